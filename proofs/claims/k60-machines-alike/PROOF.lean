import PyProof.Rows.All
import Wide.All
import OpenK.AllK
import Wide.FinOn
import HandS.ForMost
import HandS.TupAny
import HandS.TupMul
import HandS.Wide
import HandS.Star
import HandS.Deep
import HandS.Style
import HandS.Walk
import HandS.More
import HandS.Zip
import KE.GoesEnum
import HandS.Replace
import HandS.Sort
import HandS.TupSets
import PyProof.ReprRoads
import HandS.Words
import KE.KDictZip
import PyProof.ReprBulk
import PyProof.Rows.ReprShort
import PyProof.Rows.StrMeet
import HandS.Conv
import HandS.TupLen
import HandS.SortInts
import KE.KExcSuper
import HandS.Exc
import HandS.ExcField
import HandS.ExcIs
import HandS.TryMany
import HandS.ExcOwn
import HandS.WordsExc
import KE.KExcIs
import KE.KDictDisplayH
import KE.GoesZip
import PyProof.ReprText
import PyProof.Rows.ReprOcc
import HandS.ForDict
import KE.RegKIsAll
import KE.KExcLine
import PySem.Challenge.RW_veiledchains_k60_whole_machines_that_tak
set_option Elab.async false
set_option linter.all false
set_option maxRecDepth 100000
/-! PL, the pure layer: data without heaps over the hand layer. Part 1: data, slots, the separated heap. -/
namespace PL
open PySem PySem.Spec L2

/-- data, as the written name of the library's type -/
abbrev D := PyData

def keyD : Key → D
  | .inl i => .int i
  | .inr x => .str x

mutual
/-- v stands for the data d, all of whose objects lie in the frozen part F -/
inductive Rp (K : PySem.W.Frag) (F : Hp) : V → D → Prop
  | non : Rp K F .non .none
  | bl (b : Bool) : Rp K F (.bl b) (.bool b)
  | int (i : Int) : Rp K F (.int i) (.int i)
  | str (x : Str) : Rp K F (.str x) (.str x)
  | lst {a : Addr} {xs : List V} {ds : List D} : F a = some (.lst xs) → RpAll K F xs ds → Rp K F (.ref a) (.list ds)
  | tup {a : Addr} {xs : List V} {ds : List D} : F a = some (.tup xs) → RpAll K F xs ds → Rp K F (.ref a) (.tuple ds)
  | dic {a : Addr} {kvs : List (Key × V)} {kds : List (Key × D)} : F a = some (.dK kvs) → RpKv K F kvs kds → Rp K F (.ref a) (.dict (kds.map fun p => (keyD p.1, p.2)))
inductive RpAll (K : PySem.W.Frag) (F : Hp) : List V → List D → Prop
  | nil : RpAll K F [] []
  | cons {v : V} {vs : List V} {d : D} {ds : List D} : Rp K F v d → RpAll K F vs ds → RpAll K F (v :: vs) (d :: ds)
inductive RpKv (K : PySem.W.Frag) (F : Hp) : List (Key × V) → List (Key × D) → Prop
  | nil : RpKv K F [] []
  | cons {k : Key} {v : V} {vs : List (Key × V)} {d : D} {ds : List (Key × D)} : Rp K F v d → RpKv K F vs ds → RpKv K F ((k, v) :: vs) ((k, d) :: ds)
end

theorem same_rd {F F' : Hp} {a : Addr} {u : HO} (e : Same F F') (h : Rd F a u) : Rd F' a u := by
  rcases h with h | ⟨o, h⟩
  · exact .inl (e _ _ h)
  · exact .inr ⟨o, e _ _ h⟩
theorem same_l {K : PySem.W.Frag} {F F' : Hp} {a : Addr} {xs : List V} (e : Same F F') (h : SqL K F a xs) : SqL K F' a xs := h.imp (same_rd e) id
theorem same_T {K : PySem.W.Frag} {F F' : Hp} {a : Addr} {xs : List V} (e : Same F F') (h : SqT K F a xs) : SqT K F' a xs := h.imp (same_rd e) id
theorem same_t {K : PySem.W.Frag} {F F' : Hp} {a : Addr} {xs : List V} (e : Same F F') (h : F a = some (.tup xs)) : SqT K F' a xs := .inl (.inl (e _ _ h))

mutual
theorem Rp.mono {K : PySem.W.Frag} {F F' : Hp} (e : Same F F') : ∀ {v : V} {d : D}, Rp K F v d → Rp K F' v d
  | _, _, .non => .non
  | _, _, .bl b => .bl b
  | _, _, .int i => .int i
  | _, _, .str x => .str x
  | _, _, .lst h r => .lst (e _ _ h) (RpAll.mono e r)
  | _, _, .tup h r => .tup (e _ _ h) (RpAll.mono e r)
  | _, _, .dic h r => .dic (e _ _ h) (RpKv.mono e r)
theorem RpAll.mono {K : PySem.W.Frag} {F F' : Hp} (e : Same F F') : ∀ {v : List V} {d : List D}, RpAll K F v d → RpAll K F' v d
  | _, _, .nil => .nil
  | _, _, .cons h r => .cons (Rp.mono e h) (RpAll.mono e r)
theorem RpKv.mono {K : PySem.W.Frag} {F F' : Hp} (e : Same F F') : ∀ {v : List (Key × V)} {d : List (Key × D)}, RpKv K F v d → RpKv K F' v d
  | _, _, .nil => .nil
  | _, _, .cons h r => .cons (Rp.mono e h) (RpKv.mono e r)
end

theorem RpAll.length {K : PySem.W.Frag} {F : Hp} : ∀ {v : List V} {d : List D}, RpAll K F v d → v.length = d.length
  | _, _, .nil => rfl
  | _, _, .cons _ r => congrArg (· + 1) (RpAll.length r)
theorem RpAll.get {K : PySem.W.Frag} {F : Hp} : ∀ {v : List V} {d : List D} {i : Nat} {x : D}, RpAll K F v d → d[i]? = some x → ∃ u, v[i]? = some u ∧ Rp K F u x
  | _, _, _, _, .nil, e => by simp at e
  | _, _, 0, _, .cons h _, e => by
    simp at e
    subst e
    exact ⟨_, rfl, h⟩
  | _, _, i + 1, _, .cons _ r, e => by
    obtain ⟨u, h1, h2⟩ := RpAll.get (i := i) r (by simpa using e)
    exact ⟨u, by simpa using h1, h2⟩
theorem RpAll.getV {K : PySem.W.Frag} {F : Hp} {v : List V} {d : List D} {i : Nat} {u : V} (r : RpAll K F v d) (e : v[i]? = some u) : ∃ x, d[i]? = some x ∧ Rp K F u x := by
  have hl := r.length
  obtain ⟨h1, h2⟩ := List.getElem?_eq_some_iff.mp e
  have hd : d[i]? = some (d[i]'(by omega)) := List.getElem?_eq_getElem (by omega)
  obtain ⟨u', e', h⟩ := r.get hd
  rw [e] at e'
  cases e'
  exact ⟨_, hd, h⟩
theorem RpAll.append {K : PySem.W.Frag} {F : Hp} : ∀ {v w : List V} {d e : List D}, RpAll K F v d → RpAll K F w e → RpAll K F (v ++ w) (d ++ e)
  | _, _, _, _, .nil, s => s
  | _, _, _, _, .cons h r, s => .cons h (RpAll.append r s)
theorem RpAll.one {K : PySem.W.Frag} {F : Hp} {v : V} {d : D} (h : Rp K F v d) : RpAll K F [v] [d] := .cons h .nil
theorem RpAll.set {K : PySem.W.Frag} {F : Hp} {x : V} {y : D} (h : Rp K F x y) : ∀ {v : List V} {d : List D} (i : Nat), RpAll K F v d → RpAll K F (v.set i x) (d.set i y)
  | _, _, _, .nil => .nil
  | _, _, 0, .cons _ r => .cons h r
  | _, _, i + 1, .cons q r => .cons q (RpAll.set h i r)
theorem RpAll.take {K : PySem.W.Frag} {F : Hp} : ∀ {v : List V} {d : List D} (i : Nat), RpAll K F v d → RpAll K F (v.take i) (d.take i)
  | _, _, 0, _ => .nil
  | _, _, _ + 1, .nil => .nil
  | _, _, i + 1, .cons q r => .cons q (RpAll.take i r)
theorem RpAll.drop {K : PySem.W.Frag} {F : Hp} : ∀ {v : List V} {d : List D} (i : Nat), RpAll K F v d → RpAll K F (v.drop i) (d.drop i)
  | _, _, 0, r => r
  | _, _, _ + 1, .nil => .nil
  | _, _, i + 1, .cons _ r => RpAll.drop i r
theorem RpAll.eraseIdx {K : PySem.W.Frag} {F : Hp} : ∀ {v : List V} {d : List D} (i : Nat), RpAll K F v d → RpAll K F (v.eraseIdx i) (d.eraseIdx i)
  | _, _, _, .nil => .nil
  | _, _, 0, .cons _ r => r
  | _, _, i + 1, .cons q r => .cons q (RpAll.eraseIdx i r)
theorem RpAll.rep {K : PySem.W.Frag} {F : Hp} {v : List V} {d : List D} (h : RpAll K F v d) : ∀ k : Nat, RpAll K F (List.replicate k v).flatten (List.replicate k d).flatten
  | 0 => .nil
  | k + 1 => by
    rw [List.replicate_succ, List.flatten_cons, List.replicate_succ, List.flatten_cons]
    exact h.append (RpAll.rep h k)
theorem RpAll.ints {K : PySem.W.Frag} {F : Hp} : ∀ {v : List V} {ns : List Int}, RpAll K F v (ns.map .int) → v = ns.map V.int
  | _, [], h => by cases h; rfl
  | _, n :: ns, h => by
    cases h with
    | cons q r =>
      cases q
      rw [RpAll.ints r]
      rfl
theorem rpAll_ints {K : PySem.W.Frag} {F : Hp} : ∀ ns : List Int, RpAll K F (ns.map V.int) (ns.map .int)
  | [] => .nil
  | n :: ns => .cons (.int n) (rpAll_ints ns)
theorem RpAll.strs {K : PySem.W.Frag} {F : Hp} : ∀ {v : List V} {ns : List Str}, RpAll K F v (ns.map .str) → v = ns.map V.str
  | _, [], h => by cases h; rfl
  | _, n :: ns, h => by
    cases h with
    | cons q r =>
      cases q
      rw [RpAll.strs r]
      rfl
theorem RpAll.bls {K : PySem.W.Frag} {F : Hp} : ∀ {v : List V} {ns : List Bool}, RpAll K F v (ns.map .bool) → v = ns.map V.bl
  | _, [], h => by cases h; rfl
  | _, n :: ns, h => by
    cases h with
    | cons q r =>
      cases q
      rw [RpAll.bls r]
      rfl

/-! data without dicts -/
mutual
def nod : D → Bool
  | .list xs => nodAll xs
  | .tuple xs => nodAll xs
  | .dict _ => false
  | _ => true
def nodAll : List D → Bool
  | [] => true
  | x :: xs => nod x && nodAll xs
end
mutual
theorem Rp.dp {K : PySem.W.Frag} {F : Hp} : ∀ {v : V} {d : D}, Rp K F v d → nod d = true → Dp K F v d
  | _, _, .non, _ => .non
  | _, _, .bl b, _ => .bl b
  | _, _, .int i, _ => .int i
  | _, _, .str x, _ => .str x
  | _, _, .lst h r, n => .lst (.inl (.inl h)) (RpAll.dp r (by simpa only [nod] using n))
  | _, _, .tup h r, n => .tup (.inl (.inl h)) (RpAll.dp r (by simpa only [nod] using n))
  | _, _, .dic h r, n => by simp only [nod] at n; cases n
theorem RpAll.dp {K : PySem.W.Frag} {F : Hp} : ∀ {v : List V} {d : List D}, RpAll K F v d → nodAll d = true → DpAll K F v d
  | _, _, .nil, _ => .nil
  | _, _, .cons h r, n => by
    simp only [nodAll, Bool.and_eq_true] at n
    exact .cons (Rp.dp h n.1) (RpAll.dp r n.2)
end

/-- the thing that draws: where it lies, what it takes up -/
structure Box where
  at_ : Hp → Addr → (Addr → Prop) → Prop
  frame : ∀ {H H' : Hp} {u : Addr} {fp : Addr → Prop}, at_ H u fp → (∀ a, fp a → H' a = H a) → at_ H' u fp
  live : ∀ {H : Hp} {u : Addr} {fp : Addr → Prop}, at_ H u fp → ∀ a, fp a → H a ≠ none
  /-- what is known of the parts (an exception's way back) -/
  ok : Hp → Hp → Prop := fun _ _ => True
  okF : ∀ {G F F' : Hp}, ok G F → Same F F' → ok G F' := by intros; exact True.intro
  okG : ∀ {G F : Hp} {a : Addr} {o : HO}, ok G F → G a = none → ok (upd G a o) F := by intros; exact True.intro
def Box.no : Box where
  at_ := fun _ _ _ => False
  frame := fun h _ => h.elim
  live := fun h => h.elim
/-- with nothing known of the parts -/
def Box.bare (B : Box) : Box where
  at_ := B.at_
  frame := B.frame
  live := B.live

/-- what a slot holds -/
inductive T where
  | un
  | d (d : D)
  /-- a list of one's own, of data -/
  | l (ds : List D)
  /-- a dict of one's own, its values data -/
  | k (kvs : List (Key × D))
  /-- the same, its keys tuples -/
  | kt (kvs : List (List Key × D))
  | bx (u : Addr)
  | raw (v : V)
  /-- what slot i holds -/
  | al (i : Nat)

/-- the data that a value in flight stands for, where it is frozen -/
def T.dat : T → Option D
  | .d x => some x
  | .l ds => some (.list ds)
  | .k kvs => some (.dict (kvs.map fun p => (keyD p.1, p.2)))
  | _ => none

inductive RpKt (K : PySem.W.Frag) (F : Hp) : List (List Key × V) → List (List Key × D) → Prop
  | nil : RpKt K F [] []
  | cons {k : List Key} {v : V} {vs : List (List Key × V)} {d : D} {ds : List (List Key × D)} : Rp K F v d → RpKt K F vs ds → RpKt K F ((k, v) :: vs) ((k, d) :: ds)
theorem RpKt.mono {K : PySem.W.Frag} {F F' : Hp} (e : Same F F') : ∀ {v : List (List Key × V)} {d : List (List Key × D)}, RpKt K F v d → RpKt K F' v d
  | _, _, .nil => .nil
  | _, _, .cons h r => .cons (Rp.mono e h) (RpKt.mono e r)

/-- o holds t; what is one's own of it lies at fp -/
def Own (K : PySem.W.Frag) (B : Box) (H F : Hp) (σ : St) (t : T) (o : Option V) (fp : Addr → Prop) : Prop := match t with
  | .un => ∀ a, ¬ fp a
  | .d d => (∀ a, ¬ fp a) ∧ ∃ v, o = some v ∧ Rp K F v d
  | .l ds => ∃ a xs, o = some (.ref a) ∧ H a = some (.lst xs) ∧ RpAll K F xs ds ∧ ∀ b, fp b ↔ b = a
  | .k kds => ∃ a kvs, o = some (.ref a) ∧ H a = some (.dK kvs) ∧ RpKv K F kvs kds ∧ ∀ b, fp b ↔ b = a
  | .kt kds => ∃ a kvs, o = some (.ref a) ∧ H a = some (.dT kvs) ∧ RpKt K F kvs kds ∧ ∀ b, fp b ↔ b = a
  | .bx u => o = some (.ref u) ∧ B.at_ H u fp
  | .raw v => (∀ a, ¬ fp a) ∧ o = some v
  | .al i => (∀ a, ¬ fp a) ∧ ∃ v, o = some v ∧ σ[i]? = some (some v)

theorem Own.frame {K : PySem.W.Frag} {B : Box} {H H' F F' : Hp} {σ : St} {t : T} {o : Option V} {fp : Addr → Prop} (h : Own K B H F σ t o fp) (k : ∀ a, fp a → H' a = H a) (e : Same F F') : Own K B H' F' σ t o fp := by
  cases t with
  | un => exact h
  | d x => obtain ⟨n, v, e1, r⟩ := h; exact ⟨n, v, e1, r.mono e⟩
  | l ds => obtain ⟨a, xs, e1, e2, r, q⟩ := h; exact ⟨a, xs, e1, (k a ((q a).mpr rfl)).trans e2, r.mono e, q⟩
  | k ds => obtain ⟨a, xs, e1, e2, r, q⟩ := h; exact ⟨a, xs, e1, (k a ((q a).mpr rfl)).trans e2, r.mono e, q⟩
  | kt ds => obtain ⟨a, xs, e1, e2, r, q⟩ := h; exact ⟨a, xs, e1, (k a ((q a).mpr rfl)).trans e2, r.mono e, q⟩
  | bx u => exact ⟨h.1, B.frame h.2 k⟩
  | raw v => exact h
  | al i => exact h
theorem Own.live {K : PySem.W.Frag} {B : Box} {H F : Hp} {σ : St} {t : T} {o : Option V} {fp : Addr → Prop} (h : Own K B H F σ t o fp) : ∀ a, fp a → H a ≠ none := by
  intro a ha
  cases t with
  | un => exact (h a ha).elim
  | d x => exact (h.1 a ha).elim
  | l ds => obtain ⟨b, xs, e1, e2, r, q⟩ := h; rw [(q a).mp ha, e2]; exact fun z => nomatch z
  | k ds => obtain ⟨b, xs, e1, e2, r, q⟩ := h; rw [(q a).mp ha, e2]; exact fun z => nomatch z
  | kt ds => obtain ⟨b, xs, e1, e2, r, q⟩ := h; rw [(q a).mp ha, e2]; exact fun z => nomatch z
  | bx u => exact B.live h.2 a ha
  | raw v => exact (h.1 a ha).elim
  | al i => exact (h.1 a ha).elim


/-- the heap H in parts: G is another's and stays, F is frozen data, the rest is owned slot by slot (slot i owns fp i) -/
structure OkW (K : PySem.W.Frag) (B : Box) (G F H : Hp) (σ : St) (ρ : List T) (fp : Nat → Addr → Prop) : Prop where
  g : Same G H
  f : Same F H
  gf : ∀ a o, G a = some o → F a = none
  bx : B.ok G F
  len : σ.length = ρ.length
  own : ∀ i t, ρ[i]? = some t → Own K B H F σ t (σ[i]?.join) (fp i)
  dj : ∀ i j a, fp i a → fp j a → i = j
  out : ∀ i a, fp i a → G a = none ∧ F a = none
  up : ∀ i a, fp i a → i < ρ.length
def Ok (K : PySem.W.Frag) (B : Box) (G F H : Hp) (σ : St) (ρ : List T) : Prop := ∃ fp, OkW K B G F H σ ρ fp

section
variable {K : PySem.W.Frag} {B : Box} {G G' F F' H H' : Hp} {σ σ' : St} {ρ : List T} {v : V} {d : D} {r t : T} {i : Nat} {a p : Addr} {xs ys : List V} {ds es : List D} {fp : Nat → Addr → Prop}

theorem join_get {σ : St} {i : Nat} {v : V} (h : σ[i]?.join = some v) : σ[i]? = some (some v) := by
  cases e : σ[i]? with
  | none => rw [e] at h; cases h
  | some o => rw [e] at h; exact congrArg some h
theorem get_join {σ : St} {i : Nat} {o : Option V} (h : σ[i]? = some o) : σ[i]?.join = o := by rw [h]; rfl

theorem OkW.live (k : OkW K B G F H σ ρ fp) : ∀ i a, fp i a → H a ≠ none := fun i a h =>
  (k.own i _ (List.getElem?_eq_getElem (k.up i a h))).live a h
theorem Ok.f (k : Ok K B G F H σ ρ) : Same F H := let ⟨_, k⟩ := k; k.f
theorem Ok.g (k : Ok K B G F H σ ρ) : Same G H := let ⟨_, k⟩ := k; k.g
theorem Ok.len (k : Ok K B G F H σ ρ) : σ.length = ρ.length := let ⟨_, k⟩ := k; k.len
theorem Ok.bx (k : Ok K B G F H σ ρ) : B.ok G F := let ⟨_, k⟩ := k; k.bx
theorem Ok.gf (k : Ok K B G F H σ ρ) : ∀ a o, G a = some o → F a = none := let ⟨_, k⟩ := k; k.gf
theorem Ok.var (k : Ok K B G F H σ ρ) (h : ρ[i]? = some (.d d)) : ∃ v, σ[i]? = some (some v) ∧ Rp K F v d := by
  obtain ⟨fp, k⟩ := k
  obtain ⟨_, v, e, r⟩ := k.own i _ h
  exact ⟨v, join_get e, r⟩
theorem Ok.varL (k : Ok K B G F H σ ρ) (h : ρ[i]? = some (.l ds)) : ∃ a xs, σ[i]? = some (some (.ref a)) ∧ H a = some (.lst xs) ∧ RpAll K F xs ds := by
  obtain ⟨fp, k⟩ := k
  obtain ⟨a, xs, e, e2, r, _⟩ := k.own i _ h
  exact ⟨a, xs, join_get e, e2, r⟩
theorem Ok.varRaw (k : Ok K B G F H σ ρ) (h : ρ[i]? = some (.raw v)) : σ[i]? = some (some v) := by
  obtain ⟨fp, k⟩ := k
  obtain ⟨_, e⟩ := k.own i _ h
  exact join_get e
theorem Ok.varBx {u : Addr} (k : Ok K B G F H σ ρ) (h : ρ[i]? = some (.bx u)) : σ[i]? = some (some (.ref u)) := by
  obtain ⟨fp, k⟩ := k
  obtain ⟨e, _⟩ := k.own i _ h
  exact join_get e

/-- the frozen part grows, the heap too, all that is owned is kept -/
theorem OkW.grow (k : OkW K B G F H σ ρ fp) (e : Same F F') (f : Same F' H') (hk : ∀ a o, H a = some o → H' a = some o) (n : ∀ a o, F' a = some o → F a = some o ∨ H a = none) : OkW K B G F' H' σ ρ fp := by
  have nF : ∀ a, F a = none → H a ≠ none → F' a = none := fun a h1 h2 => by
    cases q : F' a with
    | none => rfl
    | some u =>
      rcases n a u q with z | z
      · rw [h1] at z; cases z
      · exact (h2 z).elim
  refine ⟨fun a o h => hk a o (k.g a o h), f, fun a o h => nF a (k.gf a o h) (by rw [k.g a o h]; exact fun z => nomatch z), B.okF k.bx e, k.len, fun i t h => (k.own i t h).frame (fun a ha => ?_) e, k.dj, fun i a h => ⟨(k.out i a h).1, nF a (k.out i a h).2 (k.live i a h)⟩, k.up⟩
  cases q : H a with
  | none => exact (k.live i a ha q).elim
  | some u => exact hk a u q
theorem same_upd (h : H p = none) {o : HO} : Same H (upd H p o) := fun b u e => by rw [upd_ne (ne_of_none e h)]; exact e
theorem OkW.free (k : OkW K B G F H σ ρ fp) (h : H p = none) : F p = none ∧ G p = none := ⟨k.f.free h, k.g.free h⟩
theorem Ok.free (k : Ok K B G F H σ ρ) (h : H p = none) : F p = none ∧ G p = none := let ⟨_, k⟩ := k; k.free h
/-- a new frozen object -/
theorem Ok.newF (k : Ok K B G F H σ ρ) (h : H p = none) (o : HO) : Ok K B G (upd F p o) (upd H p o) σ ρ := by
  obtain ⟨fp, k⟩ := k
  have hF := (k.free h).1
  refine ⟨fp, k.grow (same_upd hF) (fun b u e => ?_) (same_upd h) (fun b u e => ?_)⟩
  · by_cases hb : b = p
    · subst hb; rw [upd_same] at e ⊢; exact e
    · rw [upd_ne hb] at e ⊢; exact k.f b u e
  · by_cases hb : b = p
    · subst hb; exact .inr h
    · rw [upd_ne hb] at e; exact .inl e
theorem Ok.sameF (k : Ok K B G F H σ ρ) (h : H p = none) (o : HO) : Same F (upd F p o) := same_upd (k.free h).1

theorem getA {α : Type} {l : List α} {x : α} {i : Nat} : (l ++ [x])[i]? = if i < l.length then l[i]? else if i = l.length then some x else none := by
  by_cases h : i < l.length
  · rw [List.getElem?_append_left h, if_pos h]
  · rw [if_neg h]
    by_cases h2 : i = l.length
    · subst h2; simp
    · rw [if_neg h2]
      exact List.getElem?_eq_none (by simp; omega)
theorem getA_lt {α : Type} {l : List α} {x : α} {i : Nat} (h : i < l.length) : (l ++ [x])[i]? = l[i]? := by rw [getA, if_pos h]
theorem getA_eq {α : Type} {l : List α} {x : α} : (l ++ [x])[l.length]? = some x := by simp

/-- nothing in flight -/
def T.still : T → Prop
  | .al _ => False
  | _ => True
theorem Own.slots {o : Option V} {fp : Addr → Prop} (h : Own K B H F σ t o fp) (s : t.still) : Own K B H F σ' t o fp := by
  cases t with
  | al i => exact s.elim
  | un => exact h
  | d x => exact h
  | l ds => exact h
  | k ds => exact h
  | kt ds => exact h
  | bx u => exact h
  | raw v => exact h
theorem Own.slotsOf {o : Option V} {fp : Addr → Prop} (h : Own K B H F σ t o fp) (s : ∀ (j : Nat) x, σ[j]? = some (some x) → σ'[j]? = some (some x)) : Own K B H F σ' t o fp := by
  cases t with
  | al i =>
    obtain ⟨n, v, e, q⟩ := h
    exact ⟨n, v, e, s _ _ q⟩
  | un => exact h
  | d x => exact h
  | l ds => exact h
  | k ds => exact h
  | kt ds => exact h
  | bx u => exact h
  | raw v => exact h
theorem Own.more {o' : Option V} {o : Option V} {fp : Addr → Prop} (h : Own K B H F σ t o fp) : Own K B H F (σ ++ [o']) t o fp :=
  h.slotsOf fun j x q => by
    have : j < σ.length := (List.getElem?_eq_some_iff.mp q).1
    rw [getA_lt this]; exact q

/-- one slot more, whose own lies apart -/
theorem OkW.push {fq : Addr → Prop} (k : OkW K B G F H σ ρ fp) (h : Own K B H F σ r (some v) fq) (ap : ∀ a, fq a → G a = none ∧ F a = none) (sep : ∀ i a, fp i a → ¬ fq a) :
    OkW K B G F H (σ ++ [some v]) (ρ ++ [r]) (fun i => if i = ρ.length then fq else fp i) := by
  refine ⟨k.g, k.f, k.gf, k.bx, by simp [k.len], fun i t hi => ?_, fun i j a h1 h2 => ?_, fun i a h1 => ?_, fun i a h1 => ?_⟩
  · by_cases e : i = ρ.length
    · subst e
      simp only [if_true]
      rw [getA_eq] at hi
      cases hi
      rw [← k.len, getA_eq]
      exact h.more
    · simp only [if_neg e]
      have hlt : i < ρ.length := by
        have := (List.getElem?_eq_some_iff.mp hi).1
        simp at this
        omega
      rw [getA_lt hlt] at hi
      rw [getA_lt (by rw [k.len]; exact hlt)]
      exact (k.own i t hi).more
  · by_cases e : i = ρ.length <;> by_cases e' : j = ρ.length <;> simp only [e, e', if_true, if_false] at h1 h2
    · omega
    · exact (sep j a h2 h1).elim
    · exact (sep i a h1 h2).elim
    · exact k.dj i j a h1 h2
  · by_cases e : i = ρ.length
    · simp only [e, if_true] at h1
      exact ap a h1
    · simp only [e, if_false] at h1
      exact k.out i a h1
  · by_cases e : i = ρ.length
    · simp [e]
    · simp only [e, if_false] at h1
      have := k.up i a h1
      simp
      omega
theorem Ok.pushD (k : Ok K B G F H σ ρ) (h : Rp K F v d) : Ok K B G F H (σ ++ [some v]) (ρ ++ [.d d]) :=
  let ⟨_, k⟩ := k; ⟨_, k.push (fq := fun _ => False) ⟨fun _ z => z, v, rfl, h⟩ (fun _ z => z.elim) fun _ _ _ z => z⟩
theorem Ok.pushRaw (k : Ok K B G F H σ ρ) : Ok K B G F H (σ ++ [some v]) (ρ ++ [.raw v]) :=
  let ⟨_, k⟩ := k; ⟨_, k.push (fq := fun _ => False) ⟨fun _ z => z, rfl⟩ (fun _ z => z.elim) fun _ _ _ z => z⟩
theorem Ok.pushAl (k : Ok K B G F H σ ρ) (h : σ[i]? = some (some v)) : Ok K B G F H (σ ++ [some v]) (ρ ++ [.al i]) :=
  let ⟨_, k⟩ := k; ⟨_, k.push (fq := fun _ => False) ⟨fun _ z => z, v, rfl, h⟩ (fun _ z => z.elim) fun _ _ _ z => z⟩
/-- a new object of one's own -/
theorem Ok.newO {o : HO} (k : Ok K B G F H σ ρ) (h : H p = none) (r : Own K B (upd H p o) F σ t (some (.ref p)) fun b => b = p) : Ok K B G F (upd H p o) (σ ++ [some (.ref p)]) (ρ ++ [t]) := by
  obtain ⟨fp, k⟩ := k
  have k' : OkW K B G F (upd H p o) σ ρ fp := k.grow (Same.refl F) (fun b u e => same_upd h b u (k.f b u e)) (same_upd h) (fun b u e => .inl e)
  refine ⟨_, k'.push r (fun b e => ?_) fun j b hb e => ?_⟩
  · have e : b = p := e
    subst e
    exact ⟨(k.free h).2, (k.free h).1⟩
  · have e : b = p := e
    subst e
    exact k.live j b hb h
theorem Ok.newL (k : Ok K B G F H σ ρ) (h : H p = none) (r : RpAll K F xs ds) : Ok K B G F (upd H p (.lst xs)) (σ ++ [some (.ref p)]) (ρ ++ [.l ds]) :=
  k.newO h ⟨p, xs, rfl, upd_same, r, fun b => Iff.rfl⟩
/-- the last slot dropped -/
theorem OkW.pop {o : Option V} (k : OkW K B G F H (σ ++ [o]) (ρ ++ [r]) fp) (st : ∀ t ∈ ρ, t.still) : OkW K B G F H σ ρ (fun i => if i < ρ.length then fp i else fun _ => False) := by
  have hl : σ.length = ρ.length := by have := k.len; simpa using this
  refine ⟨k.g, k.f, k.gf, k.bx, hl, fun i t hi => ?_, fun i j a h1 h2 => ?_, fun i a h1 => ?_, fun i a h1 => ?_⟩
  · have hlt : i < ρ.length := (List.getElem?_eq_some_iff.mp hi).1
    simp only [if_pos hlt]
    have q := k.own i t (by rw [getA_lt hlt]; exact hi)
    rw [getA_lt (by omega)] at q
    exact q.slots (st t (List.mem_of_getElem? hi))
  · by_cases e : i < ρ.length <;> by_cases e' : j < ρ.length <;> simp only [e, e', if_true, if_false] at h1 h2
    exact k.dj i j a h1 h2
  · by_cases e : i < ρ.length <;> simp only [e, if_true, if_false] at h1
    exact k.out i a h1
  · by_cases e : i < ρ.length
    · exact e
    · simp only [e, if_false] at h1
theorem Ok.pop {o : Option V} (k : Ok K B G F H (σ ++ [o]) (ρ ++ [r])) (st : ∀ t ∈ ρ, t.still) : Ok K B G F H σ ρ := let ⟨_, k⟩ := k; ⟨_, k.pop st⟩

theorem getLast_append {α : Type} {l : List (Option α)} {x : Option α} : (l ++ [x])[l.length]?.join = x := by simp
/-- the value in flight is frozen -/
theorem Ok.frz (k : Ok K B G F H (σ ++ [some v]) (ρ ++ [r])) (st : ∀ t ∈ ρ, t.still) (hd : r.dat = some d) : ∃ F', Same F F' ∧ Ok K B G F' H σ ρ ∧ Rp K F' v d := by
  have hl : σ.length = ρ.length := by have := k.len; simpa using this
  cases r with
  | d x =>
    obtain rfl : x = d := Option.some.inj hd
    refine ⟨F, Same.refl F, k.pop st, ?_⟩
    obtain ⟨w, e, q⟩ := k.var (i := ρ.length) (d := x) getA_eq
    rw [← hl, getA_eq] at e
    cases e
    exact q
  | un => cases hd
  | bx u => cases hd
  | raw v => cases hd
  | al i => cases hd
  | kt kvs => cases hd
  | l ds =>
    cases hd
    obtain ⟨fp, k⟩ := k
    obtain ⟨a, xs, e1, e2, q, hf⟩ := k.own ρ.length _ getA_eq
    rw [← hl, getLast_append] at e1
    cases e1
    have hFa : F a = none := (k.out ρ.length a ((hf a).mpr rfl)).2
    have sF : Same F (upd F a (.lst xs)) := same_upd hFa
    have k1 := k.pop st
    refine ⟨upd F a (.lst xs), sF, ⟨_, ⟨k.g, fun b o e => ?_, fun b o e => ?_, B.okF k.bx sF, hl, fun i t hi => (k1.own i t hi).frame (fun _ _ => rfl) sF, k1.dj, fun i b hb => ?_, k1.up⟩⟩, .lst upd_same (q.mono sF)⟩
    · by_cases hb : b = a
      · subst hb; rw [upd_same] at e; cases e; exact e2
      · rw [upd_ne hb] at e; exact k.f b o e
    · have hb : b ≠ a := fun z => by
        subst z
        rw [(k.out ρ.length b ((hf b).mpr rfl)).1] at e
        cases e
      rw [upd_ne hb]
      exact k.gf b o e
    · refine ⟨(k1.out i b hb).1, ?_⟩
      have hne : b ≠ a := fun z => by
        subst z
        by_cases hi : i < ρ.length
        · simp only [if_pos hi] at hb
          have := k.dj i ρ.length b hb ((hf b).mpr rfl)
          omega
        · simp only [if_neg hi] at hb
      rw [upd_ne hne]
      exact (k1.out i b hb).2
  | k kds =>
    cases hd
    obtain ⟨fp, k⟩ := k
    obtain ⟨a, xs, e1, e2, q, hf⟩ := k.own ρ.length _ getA_eq
    rw [← hl, getLast_append] at e1
    cases e1
    have hFa : F a = none := (k.out ρ.length a ((hf a).mpr rfl)).2
    have sF : Same F (upd F a (.dK xs)) := same_upd hFa
    have k1 := k.pop st
    refine ⟨upd F a (.dK xs), sF, ⟨_, ⟨k.g, fun b o e => ?_, fun b o e => ?_, B.okF k.bx sF, hl, fun i t hi => (k1.own i t hi).frame (fun _ _ => rfl) sF, k1.dj, fun i b hb => ?_, k1.up⟩⟩, .dic upd_same (q.mono sF)⟩
    · by_cases hb : b = a
      · subst hb; rw [upd_same] at e; cases e; exact e2
      · rw [upd_ne hb] at e; exact k.f b o e
    · have hb : b ≠ a := fun z => by
        subst z
        rw [(k.out ρ.length b ((hf b).mpr rfl)).1] at e
        cases e
      rw [upd_ne hb]
      exact k.gf b o e
    · refine ⟨(k1.out i b hb).1, ?_⟩
      have hne : b ≠ a := fun z => by
        subst z
        by_cases hi : i < ρ.length
        · simp only [if_pos hi] at hb
          have := k.dj i ρ.length b hb ((hf b).mpr rfl)
          omega
        · simp only [if_neg hi] at hb
      rw [upd_ne hne]
      exact (k1.out i b hb).2

/-- the value in flight is stored in slot i -/
theorem Ok.set (k : Ok K B G F H (σ ++ [some v]) (ρ ++ [r])) (st : ∀ t ∈ ρ, t.still) (sr : r.still) (hi : i < σ.length) : Ok K B G F H (σ.set i (some v)) (ρ.set i r) := by
  have hl : σ.length = ρ.length := by have := k.len; simpa using this
  obtain ⟨fp, k⟩ := k
  have k1 := k.pop st
  have kl := k.own ρ.length _ getA_eq
  rw [← hl, getLast_append] at kl
  have kl : Own K B H F (σ ++ [some v]) r (some v) (fp ρ.length) := by rw [← hl]; exact kl
  refine ⟨fun j => if j = i then fp ρ.length else if j < ρ.length then fp j else fun _ => False, k.g, k.f, k.gf, k.bx, by simp [hl], fun j t hj => ?_, fun j j' a h1 h2 => ?_, fun j a h1 => ?_, fun j a h1 => ?_⟩
  · by_cases e : j = i
    · subst e
      simp only [if_true]
      rw [List.getElem?_set_self (by omega)] at hj
      cases hj
      rw [List.getElem?_set_self (by omega)]
      exact kl.slots sr
    · simp only [if_neg e]
      rw [List.getElem?_set_ne (Ne.symm e)] at hj
      rw [List.getElem?_set_ne (Ne.symm e)]
      have hlt : j < ρ.length := (List.getElem?_eq_some_iff.mp hj).1
      simp only [if_pos hlt]
      have q := k1.own j t hj
      simp only [if_pos hlt] at q
      exact q.slots (st t (List.mem_of_getElem? hj))
  · by_cases e : j = i <;> by_cases e' : j' = i <;> simp only [e, e', if_true, if_false] at h1 h2
    · omega
    · by_cases z : j' < ρ.length <;> simp only [z, if_true, if_false] at h2
      have := k.dj ρ.length j' a h1 h2
      omega
    · by_cases z : j < ρ.length <;> simp only [z, if_true, if_false] at h1
      have := k.dj j ρ.length a h1 h2
      omega
    · by_cases z : j < ρ.length <;> by_cases z' : j' < ρ.length <;> simp only [z, z', if_true, if_false] at h1 h2
      exact k.dj j j' a h1 h2
  · by_cases e : j = i
    · simp only [e, if_true] at h1; exact k.out _ a h1
    · simp only [e, if_false] at h1
      by_cases z : j < ρ.length <;> simp only [z, if_true, if_false] at h1
      exact k.out j a h1
  · rw [List.length_set]
    by_cases e : j = i
    · omega
    · simp only [e, if_false] at h1
      by_cases z : j < ρ.length
      · exact z
      · simp only [z, if_false] at h1
/-- slot i's object changes to o' (it stays one's own) -/
theorem Ok.write {o o' : HO} {t' : T} (k : Ok K B G F H σ ρ) (ht : ρ[i]? = some t) (hp : ∀ fp : Addr → Prop, Own K B H F σ t (σ[i]?.join) fp → (∀ b, fp b ↔ b = p) ∧ Own K B (upd H p o') F σ t' (σ[i]?.join) fp) : Ok K B G F (upd H p o') σ (ρ.set i t') := by
  obtain ⟨fp, k⟩ := k
  have hlt : i < ρ.length := (List.getElem?_eq_some_iff.mp ht).1
  obtain ⟨hf, hn⟩ := hp (fp i) (k.own i t ht)
  have po := k.out i p ((hf p).mpr rfl)
  have sm : ∀ a, a ≠ p → upd H p o' a = H a := fun a h => upd_ne h
  refine ⟨fp, fun a o e => ?_, fun a o e => ?_, k.gf, k.bx, by simp [k.len], fun j t2 hj => ?_, k.dj, k.out, fun j a h => by rw [List.length_set]; exact k.up j a h⟩
  · rw [sm a (fun z => by subst z; rw [po.1] at e; cases e)]; exact k.g a o e
  · rw [sm a (fun z => by subst z; rw [po.2] at e; cases e)]; exact k.f a o e
  · by_cases e : j = i
    · subst e
      rw [List.getElem?_set_self hlt] at hj
      cases hj
      exact hn
    · rw [List.getElem?_set_ne (Ne.symm e)] at hj
      refine (k.own j t2 hj).frame (fun a ha => sm a fun z => ?_) (Same.refl F)
      subst z
      exact e (k.dj j i a ha ((hf a).mpr rfl))
/-- a list of one's own in slot i changes -/
theorem Ok.setL {vs : List V} (k : Ok K B G F H σ ρ) (ht : ρ[i]? = some (.l ds)) (ha : σ[i]? = some (some (.ref a))) (r : RpAll K F vs es) : Ok K B G F (upd H a (.lst vs)) σ (ρ.set i (.l es)) := by
  refine k.write (o := .lst vs) ht fun fp h => ?_
  obtain ⟨b, xs, e1, e2, q, hf⟩ := h
  rw [get_join ha] at e1
  cases e1
  exact ⟨hf, _, vs, get_join ha, upd_same, r, hf⟩
/-- slot i is frozen -/
theorem Ok.frzL (k : Ok K B G F H σ ρ) (st : ∀ t ∈ ρ, t.still) (ht : ρ[i]? = some (.l ds)) : ∃ F' v, Same F F' ∧ Ok K B G F' H σ (ρ.set i (.d (.list ds))) ∧ σ[i]? = some (some v) ∧ Rp K F' v (.list ds) := by
  obtain ⟨fp, k⟩ := k
  obtain ⟨a, xs, e1, e2, q, hf⟩ := k.own i _ ht
  have hlt : i < ρ.length := (List.getElem?_eq_some_iff.mp ht).1
  have po := k.out i a ((hf a).mpr rfl)
  have sF : Same F (upd F a (.lst xs)) := same_upd po.2
  have rp : Rp K (upd F a (.lst xs)) (.ref a) (.list ds) := .lst upd_same (q.mono sF)
  refine ⟨upd F a (.lst xs), .ref a, sF, ⟨fun j => if j = i then fun _ => False else fp j, k.g, fun b o e => ?_, fun b o e => ?_, B.okF k.bx sF, by simp [k.len], fun j t hj => ?_, fun j j' b h1 h2 => ?_, fun j b h1 => ?_, fun j b h1 => ?_⟩, join_get e1, rp⟩
  · show H b = some o
    by_cases hb : b = a
    · subst hb; rw [upd_same] at e; cases e; exact e2
    · rw [upd_ne hb] at e; exact k.f b o e
  · have hb : b ≠ a := fun z => by subst z; rw [po.1] at e; cases e
    rw [upd_ne hb]
    exact k.gf b o e
  · by_cases e : j = i
    · subst e
      simp only [if_true]
      rw [List.getElem?_set_self hlt] at hj
      cases hj
      exact ⟨fun _ z => z, .ref a, e1, rp⟩
    · simp only [if_neg e]
      rw [List.getElem?_set_ne (Ne.symm e)] at hj
      exact (k.own j t hj).frame (fun _ _ => rfl) sF
  · by_cases e : j = i <;> by_cases e' : j' = i <;> simp only [e, e', if_true, if_false] at h1 h2
    exact k.dj j j' b h1 h2
  · by_cases e : j = i <;> simp only [e, if_true, if_false] at h1
    have hb : b ≠ a := fun z => by
      subst z
      exact e (k.dj j i b h1 ((hf b).mpr rfl))
    rw [upd_ne hb]
    exact k.out j b h1
  · rw [List.length_set]
    by_cases e : j = i <;> simp only [e, if_true, if_false] at h1
    exact k.up j b h1
/-- a list in flight is another's for a while, and comes back -/
theorem Ok.park (k : Ok K B G F H (σ ++ [some (.ref a)]) (ρ ++ [.l ds])) (st : ∀ t ∈ ρ, t.still) : ∃ xs, H a = some (.lst xs) ∧ RpAll K F xs ds ∧ G a = none ∧ Ok K B (upd G a (.lst xs)) F H σ ρ := by
  have hl : σ.length = ρ.length := by have := k.len; simpa using this
  obtain ⟨fp, k⟩ := k
  obtain ⟨b, xs, e1, e2, q, hf⟩ := k.own ρ.length _ getA_eq
  rw [← hl, getLast_append] at e1
  cases e1
  have po := k.out ρ.length a ((hf a).mpr rfl)
  have k1 := k.pop st
  refine ⟨xs, e2, q, po.1, _, fun b o e => ?_, k.f, fun b o e => ?_, B.okG k.bx po.1, hl, k1.own, k1.dj, fun i b hb => ?_, k1.up⟩
  · by_cases hb : b = a
    · subst hb; rw [upd_same] at e; cases e; exact e2
    · rw [upd_ne hb] at e; exact k.g b o e
  · by_cases hb : b = a
    · subst hb; exact po.2
    · rw [upd_ne hb] at e; exact k.gf b o e
  · have hne : b ≠ a := fun z => by
      subst z
      by_cases hi : i < ρ.length
      · simp only [if_pos hi] at hb
        have := k.dj i ρ.length b hb ((hf b).mpr rfl)
        omega
      · simp only [if_neg hi] at hb
    rw [upd_ne hne]
    exact k1.out i b hb
theorem Ok.unpark {vs : List V} (k : Ok K B (upd G a (.lst xs)) F H σ ρ) (hg : G a = none) (hk : B.ok G F) (r : RpAll K F vs es) : Ok K B G F (upd H a (.lst vs)) (σ ++ [some (.ref a)]) (ρ ++ [.l es]) := by
  obtain ⟨fp, k⟩ := k
  have hF : F a = none := k.gf a _ upd_same
  have na : ∀ i b, fp i b → b ≠ a := fun i b hb z => by
    subst z
    have := (k.out i b hb).1
    rw [upd_same] at this
    cases this
  have k' : OkW K B G F (upd H a (.lst vs)) σ ρ fp := by
    refine ⟨fun b o e => ?_, fun b o e => ?_, fun b o e => ?_, hk, k.len, fun i t hi => (k.own i t hi).frame (fun b hb => upd_ne (na i b hb)) (Same.refl F), k.dj, fun i b hb => ?_, k.up⟩
    · have hb : b ≠ a := fun z => by subst z; rw [hg] at e; cases e
      rw [upd_ne hb]
      exact k.g b o (by rw [upd_ne hb]; exact e)
    · have hb : b ≠ a := fun z => by subst z; rw [hF] at e; cases e
      rw [upd_ne hb]
      exact k.f b o e
    · have hb : b ≠ a := fun z => by subst z; rw [hg] at e; cases e
      exact k.gf b o (by rw [upd_ne hb]; exact e)
    · have := k.out i b hb
      rw [upd_ne (na i b hb)] at this
      exact this
  refine ⟨_, k'.push (fq := fun b => b = a) ⟨a, vs, rfl, upd_same, r, fun b => Iff.rfl⟩ (fun b e => ?_) fun i b hb e => na i b hb e⟩
  have e : b = a := e
  subst e
  exact ⟨hg, hF⟩
end
end PL

set_option Elab.async false
set_option linter.all false
set_option maxRecDepth 100000
/-! PL, part 2: the judgements' pure readings; expressions. -/
namespace PL
open PySem PySem.Spec L2

abbrev Env := List T
/-- pure readings: an expression's, a test's, an argument list's -/
abbrev QE := Env → (T → Env → Prop) → Prop
abbrev QT := Env → (Bool → Env → Prop) → Prop

/-- values that stay as they are while other things are reckoned -/
inductive W where
  | d (x : D) | raw (v : V) | al (i : Nat) | no
def T.w : T → W
  | .d x => .d x
  | .l ds => .d (.list ds)
  | .k kvs => .d (.dict (kvs.map fun p => (keyD p.1, p.2)))
  | .raw v => .raw v
  | .al i => .al i
  | _ => .no
abbrev QA := Env → (List W → Env → Prop) → Prop
/-- an alias is looked up; data and raw values stay -/
def W.t (ρ : Env) : W → T
  | .d x => .d x
  | .raw v => .raw v
  | .al i => (ρ[i]?).getD .un
  | .no => .un

def St0 (K : PySem.W.Frag) (B : Box) (G F H : Hp) (σ : St) (ρ : Env) : Prop := (∀ t ∈ ρ, t.still) ∧ Ok K B G F H σ ρ
structure Fl (K : PySem.W.Frag) (B : Box) (G F H : Hp) (σ : St) (ρ : Env) (v : V) (r : T) : Prop where
  still : ∀ t ∈ ρ, t.still
  ok : Ok K B G F H (σ ++ [some v]) (ρ ++ [r])
  al : ∀ i, r = .al i → i < ρ.length
def WOk (K : PySem.W.Frag) (F : Hp) (σ : St) : W → V → Prop
  | .d x, v => Rp K F v x
  | .raw u, v => v = u
  | .al i, v => σ[i]? = some (some v)
  | .no, _ => True
inductive WsOk (K : PySem.W.Frag) (F : Hp) (σ : St) : List W → List V → Prop
  | nil : WsOk K F σ [] []
  | cons {w : W} {ws : List W} {v : V} {vs : List V} : WOk K F σ w v → WsOk K F σ ws vs → WsOk K F σ (w :: ws) (v :: vs)

section
variable {K : PySem.W.Frag} {B : Box} {G F F' H H' : Hp} {σ : St} {ρ : Env} {v : V} {r : T} {u : W} {x d : D}
theorem WOk.mono (e : Same F F') (h : WOk K F σ u v) : WOk K F' σ u v := by
  cases u with
  | d x => exact Rp.mono e h
  | raw u => exact h
  | al i => exact h
  | no => exact h
theorem WsOk.mono (e : Same F F') : ∀ {ws : List W} {vs : List V}, WsOk K F σ ws vs → WsOk K F' σ ws vs
  | _, _, .nil => .nil
  | _, _, .cons h r => .cons (h.mono e) (WsOk.mono e r)
theorem St0.ok (k : St0 K B G F H σ ρ) : Ok K B G F H σ ρ := k.2
theorem Fl.pop (k : Fl K B G F H σ ρ v r) : St0 K B G F H σ ρ := ⟨k.still, k.ok.pop k.still⟩
theorem getLastA {α : Type} {l : List α} {x : α} {n : Nat} (h : n = l.length) : (l ++ [x])[n]? = some x := by subst h; simp
/-- the value in flight, made to stay -/
theorem Fl.w (k : Fl K B G F H σ ρ v r) : ∃ F', Same F F' ∧ St0 K B G F' H σ ρ ∧ WOk K F' σ r.w v := by
  have hl : σ.length = ρ.length := by have := k.ok.len; simpa using this
  cases hd : r.dat with
  | some x =>
    obtain ⟨F', e, k', q⟩ := k.ok.frz k.still hd
    refine ⟨F', e, ⟨k.still, k'⟩, ?_⟩
    cases r with
    | d y => obtain rfl : y = x := Option.some.inj hd; exact q
    | l ds => obtain rfl : PyData.list ds = x := Option.some.inj hd; exact q
    | k ds => obtain rfl := Option.some.inj hd; exact q
    | un => exact nomatch hd
    | bx u => exact nomatch hd
    | raw v => exact nomatch hd
    | al i => exact nomatch hd
    | kt kvs => exact nomatch hd
  | none =>
    refine ⟨F, Same.refl F, k.pop, ?_⟩
    cases r with
    | d y => exact nomatch hd
    | l ds => exact nomatch hd
    | k ds => exact nomatch hd
    | un => trivial
    | bx u => trivial
    | raw u =>
      have q := k.ok.varRaw (i := ρ.length) (v := u) getA_eq
      rw [getLastA hl.symm] at q
      cases q
      rfl
    | al i =>
      obtain ⟨fp, z⟩ := k.ok
      obtain ⟨_, y, e1, e2⟩ := z.own ρ.length _ getA_eq
      rw [← hl, getLast_append] at e1
      cases e1
      show σ[i]? = some (some v)
      have h : i < σ.length := by have := k.al i rfl; omega
      rw [getA_lt h] at e2; exact e2
    | kt kvs => trivial

/-- reads as d: frozen, or a list or dict of one's own whose parts are frozen -/
def Rq (K : PySem.W.Frag) (F H : Hp) (v : V) (d : D) : Prop := Rp K F v d ∨
  (∃ a xs ds, d = .list ds ∧ v = .ref a ∧ H a = some (.lst xs) ∧ RpAll K F xs ds) ∨ ∃ a kvs kds, d = .dict (kds.map fun p => (keyD p.1, p.2)) ∧ v = .ref a ∧ H a = some (.dK kvs) ∧ RpKv K F kvs kds
/-- the data of a value at hand -/
def W.dat (ρ : Env) (u : W) : Option D := (u.t ρ).dat
theorem Rq.int {i : Int} (h : Rq K F H v (.int i)) : v = .int i := by
  rcases h with h | ⟨_, _, _, e, _⟩ | ⟨_, _, _, e, _⟩
  · cases h; rfl
  · cases e
  · cases e
theorem Rq.bool {i : Bool} (h : Rq K F H v (.bool i)) : v = .bl i := by
  rcases h with h | ⟨_, _, _, e, _⟩ | ⟨_, _, _, e, _⟩
  · cases h; rfl
  · cases e
  · cases e
theorem Rq.str {i : Str} (h : Rq K F H v (.str i)) : v = .str i := by
  rcases h with h | ⟨_, _, _, e, _⟩ | ⟨_, _, _, e, _⟩
  · cases h; rfl
  · cases e
  · cases e
theorem Rq.non (h : Rq K F H v .none) : v = .non := by
  rcases h with h | ⟨_, _, _, e, _⟩ | ⟨_, _, _, e, _⟩
  · cases h; rfl
  · cases e
  · cases e
theorem Rq.tup {ds : List D} (h : Rq K F H v (.tuple ds)) : ∃ a xs, v = .ref a ∧ F a = some (.tup xs) ∧ RpAll K F xs ds := by
  rcases h with h | ⟨_, _, _, e, _⟩ | ⟨_, _, _, e, _⟩
  · cases h with
    | tup q r => exact ⟨_, _, rfl, q, r⟩
  · cases e
  · cases e
theorem Rq.lst {ds : List D} (f : Same F H) (h : Rq K F H v (.list ds)) : ∃ a xs, v = .ref a ∧ H a = some (.lst xs) ∧ RpAll K F xs ds := by
  rcases h with h | ⟨a, xs, es, e, e1, e2, r⟩ | ⟨_, _, _, e, _⟩
  · cases h with
    | lst q r => exact ⟨_, _, rfl, f _ _ q, r⟩
  · injection e with e
    subst e
    exact ⟨a, xs, e1, e2, r⟩
  · cases e
theorem Rq.rp (f : Same F H) (h : Rq K F H v d) : Rp K H v d := by
  rcases h with h | ⟨a, xs, es, rfl, rfl, e2, r⟩ | ⟨a, xs, es, rfl, rfl, e2, r⟩
  · exact h.mono f
  · exact .lst e2 (r.mono f)
  · exact .dic e2 (r.mono f)
theorem Rq.dp (f : Same F H) (h : Rq K F H v d) (n : nod d = true) : Dp K H v d := (h.rp f).dp n
theorem St0.read (k : St0 K B G F H σ ρ) (h : WOk K F σ u v) (e : u.dat ρ = some d) : Rq K F H v d := by
  cases u with
  | d x =>
    obtain rfl : x = d := Option.some.inj e
    exact .inl h
  | raw u => exact nomatch e
  | no => exact nomatch e
  | al i =>
    have h : σ[i]? = some (some v) := h
    obtain ⟨fp, k'⟩ := k.2
    have hi : i < ρ.length := by rw [← k'.len]; exact (List.getElem?_eq_some_iff.mp h).1
    have ht : ρ[i]? = some ρ[i] := List.getElem?_eq_getElem hi
    have q := k'.own i _ ht
    rw [get_join h] at q
    have e : ((ρ[i]?).getD .un).dat = some d := e
    rw [ht] at e
    have e : (ρ[i]).dat = some d := e
    generalize ρ[i] = t at q e
    cases t with
    | d x =>
      obtain rfl : x = d := Option.some.inj e
      obtain ⟨_, w, e1, r⟩ := q
      cases e1
      exact .inl r
    | l ds =>
      obtain rfl : PyData.list ds = d := Option.some.inj e
      obtain ⟨a, xs, e1, e2, r, _⟩ := q
      cases e1
      exact .inr (.inl ⟨a, xs, ds, rfl, rfl, e2, r⟩)
    | k ds =>
      obtain rfl := Option.some.inj e
      obtain ⟨a, xs, e1, e2, r, _⟩ := q
      cases e1
      exact .inr (.inr ⟨a, xs, ds, rfl, rfl, e2, r⟩)
    | un => exact nomatch e
    | bx u => exact nomatch e
    | raw v => exact nomatch e
    | al i => exact nomatch e
    | kt kvs => exact nomatch e
end

/-! ### pure readings brought to the hand layer -/
section
variable (K : PySem.W.Frag) (B : Box)
def lift (t : QE) : TE := fun σ H Q => ∃ G F ρ P, St0 K B G F H σ ρ ∧ t ρ P ∧ ∀ r ρ' v H' F', P r ρ' → Fl K B G F' H' σ ρ' v r → Same F F' → Q v H'
def liftT (t : QT) : TT := fun σ H Q => ∃ G F ρ P, St0 K B G F H σ ρ ∧ t ρ P ∧ ∀ b ρ' H' F', P b ρ' → St0 K B G F' H' σ ρ' → Same F F' → Q b H'
def liftA (t : QA) : TA := fun σ H Q => ∃ G F ρ P, St0 K B G F H σ ρ ∧ t ρ P ∧ ∀ ws ρ' vs H' F', P ws ρ' → St0 K B G F' H' σ ρ' → WsOk K F' σ ws vs → Same F F' → Q vs H'
end
theorem weakE {X : Cx} {e : Expr} {t t' : TE} (h : PE X e t) (k : ∀ σ H Q, t' σ H Q → t σ H Q) : PE X e t' := ⟨fun pins s σ H Q I q => h.run pins s σ H Q I (k σ H Q q)⟩
theorem weakT {X : Cx} {e : Expr} {t t' : TT} (h : PT X e t) (k : ∀ σ H Q, t' σ H Q → t σ H Q) : PT X e t' := ⟨fun pins s σ H Q I q => h.run pins s σ H Q I (k σ H Q q)⟩
theorem weakW {X : Cx} {e : Expr} {t t' : TT} (h : PW X e t) (k : ∀ σ H Q, t' σ H Q → t σ H Q) : PW X e t' := ⟨fun wh pins s σ H Q I q => h.run wh pins s σ H Q I (k σ H Q q)⟩
theorem weakA {X : Cx} {e : List Expr} {t t' : TA} (h : PA X e t) (k : ∀ σ H Q, t' σ H Q → t σ H Q) : PA X e t' := ⟨fun pos pins s σ H Q I q => h.run pos pins s σ H Q I (k σ H Q q)⟩
section
variable {K : PySem.W.Frag} {B : Box} {G F H : Hp} {σ : St} {ρ : Env} {t : QE} {tt : QT} {ta : QA}
theorem lift_use {P : T → Env → Prop} {Q : VK} (k : St0 K B G F H σ ρ) (h : t ρ P) (q : ∀ r ρ' v H' F', P r ρ' → St0 K B G F' H' σ ρ' → WOk K F' σ r.w v → Same F F' → Q v H') : lift K B t σ H Q :=
  ⟨G, F, ρ, P, k, h, fun r ρ' v H' F1 p fl e => let ⟨F2, e2, k2, w⟩ := fl.w; q r ρ' v H' F2 p k2 w (e.trans e2)⟩
theorem lift_fl {P : T → Env → Prop} {Q : VK} (k : St0 K B G F H σ ρ) (h : t ρ P) (q : ∀ r ρ' v H' F', P r ρ' → Fl K B G F' H' σ ρ' v r → Same F F' → Q v H') : lift K B t σ H Q := ⟨G, F, ρ, P, k, h, q⟩
theorem liftT_use {P : Bool → Env → Prop} {Q : Bool → Hp → Prop} (k : St0 K B G F H σ ρ) (h : tt ρ P) (q : ∀ b ρ' H' F', P b ρ' → St0 K B G F' H' σ ρ' → Same F F' → Q b H') : liftT K B tt σ H Q := ⟨G, F, ρ, P, k, h, q⟩
theorem liftA_use {P : List W → Env → Prop} {Q : List V → Hp → Prop} (k : St0 K B G F H σ ρ) (h : ta ρ P) (q : ∀ ws ρ' vs H' F', P ws ρ' → St0 K B G F' H' σ ρ' → WsOk K F' σ ws vs → Same F F' → Q vs H') : liftA K B ta σ H Q := ⟨G, F, ρ, P, k, h, q⟩
theorem St0.d {v : V} {d : D} (k : St0 K B G F H σ ρ) (h : Rp K F v d) : Fl K B G F H σ ρ v (.d d) := ⟨k.1, k.2.pushD h, fun i e => nomatch e⟩
theorem St0.raw {v : V} (k : St0 K B G F H σ ρ) : Fl K B G F H σ ρ v (.raw v) := ⟨k.1, k.2.pushRaw, fun i e => nomatch e⟩
theorem St0.newL {p : Addr} {xs : List V} {ds : List D} (k : St0 K B G F H σ ρ) (h : H p = none) (r : RpAll K F xs ds) : Fl K B G F (upd H p (.lst xs)) σ ρ (.ref p) (.l ds) := ⟨k.1, k.2.newL h r, fun i e => nomatch e⟩
theorem St0.newT {p : Addr} {xs : List V} {ds : List D} (k : St0 K B G F H σ ρ) (h : H p = none) (r : RpAll K F xs ds) : Fl K B G (upd F p (.tup xs)) (upd H p (.tup xs)) σ ρ (.ref p) (.d (.tuple ds)) ∧ Same F (upd F p (.tup xs)) :=
  have e := k.2.sameF h (.tup xs)
  ⟨St0.d ⟨k.1, k.2.newF h _⟩ (.tup upd_same (r.mono e)), e⟩
end

/-! ### names and constants -/
section
variable {X : Cx} {B : Box} {pos : Pos}
def qC (d : D) (ρ : Env) (Q : T → Env → Prop) : Prop := Q (.d d) ρ
theorem lift_c {K : PySem.W.Frag} {v : V} {d : D} (r : ∀ F, Rp K F v d) {σ : St} {H : Hp} {Q : VK} (h : lift K B (qC d) σ H Q) : tC v σ H Q := by
  obtain ⟨G, F, ρ, P, k, h, q⟩ := h
  exact q _ _ _ _ _ h (k.d (r F)) (Same.refl F)
theorem q_int {i : Int} {j} : PE X (.Constant (.int i) j pos) (lift X.K B (qC (.int i))) := weakE pe_int fun _ _ _ => lift_c fun _ => .int i
theorem q_bl {i : Bool} {j} : PE X (.Constant (.bool i) j pos) (lift X.K B (qC (.bool i))) := weakE pe_bl fun _ _ _ => lift_c fun _ => .bl i
theorem q_non {j} : PE X (.Constant .none j pos) (lift X.K B (qC .none)) := weakE pe_non fun _ _ _ => lift_c fun _ => .non
theorem q_str {i : Str} {j} : PE X (.Constant (.str i) j pos) (lift X.K B (qC (.str i))) := weakE pe_str fun _ _ _ => lift_c fun _ => .str i
/-- a name, read for good: a list of one's own is frozen -/
def qVar (i : Nat) (ρ : Env) (Q : T → Env → Prop) : Prop := match ρ[i]? with
  | some (.d x) => Q (.d x) ρ
  | some (.l ds) => Q (.d (.list ds)) (ρ.set i (.d (.list ds)))
  | some (.raw v) => Q (.raw v) ρ
  | _ => False
theorem mem_set_still {ρ : Env} {i : Nat} {t : T} (h : ∀ t ∈ ρ, t.still) (ht : t.still) : ∀ u ∈ ρ.set i t, u.still := fun u hu => by
  rcases List.mem_or_eq_of_mem_set hu with z | z
  · exact h u z
  · rw [z]; exact ht
theorem lift_var {K : PySem.W.Frag} {i : Nat} {σ : St} {H : Hp} {Q : VK} (h : lift K B (qVar i) σ H Q) : tVar i σ H Q := by
  obtain ⟨G, F, ρ, P, k, h, q⟩ := h
  unfold qVar at h
  split at h
  · rename_i x e
    obtain ⟨v, e1, r⟩ := k.2.var e
    exact ⟨v, e1, q _ _ _ _ _ h (k.d r) (Same.refl F)⟩
  · rename_i ds e
    obtain ⟨F', v, e0, k', e1, r⟩ := k.2.frzL k.1 e
    have k1 : St0 K B G F' H σ (ρ.set i (.d (.list ds))) := ⟨mem_set_still k.1 trivial, k'⟩
    exact ⟨v, e1, q _ _ _ _ _ h (k1.d r) e0⟩
  · rename_i v e
    exact ⟨v, k.2.varRaw e, q _ _ _ _ _ h k.raw (Same.refl F)⟩
  · exact h.elim
theorem q_var (i : Nat) {x : Str} (hN : X.N[i]? = some x := by rfl) (hv : Vis X.env.scope x := by first | exact Or.inl rfl | exact Or.inr (Or.inl rfl) | exact Or.inr (Or.inr rfl)) (hd : (x == ("__debug__" : Str)) = false := by decide)
    (hcd : (x == ("__classdict__" : Str)) = false := by decide) : PE X (.Name x pos) (lift X.K B (qVar i)) := weakE (pe_var hN hv hd hcd) fun _ _ _ => lift_var
/-- a name, looked at -/
def qAl (i : Nat) (ρ : Env) (Q : T → Env → Prop) : Prop := (match ρ[i]? with
  | some .un => False
  | some _ => True
  | none => False) ∧ Q (.al i) ρ
theorem own_some {K : PySem.W.Frag} {F H : Hp} {σ : St} {t : T} {o : Option V} {fp : Addr → Prop} (h : Own K B H F σ t o fp) (n : t ≠ .un) : ∃ v, o = some v := by
  cases t with
  | un => exact (n rfl).elim
  | d x => obtain ⟨_, v, e, _⟩ := h; exact ⟨v, e⟩
  | l ds => obtain ⟨a, xs, e, _⟩ := h; exact ⟨_, e⟩
  | k ds => obtain ⟨a, xs, e, _⟩ := h; exact ⟨_, e⟩
  | kt ds => obtain ⟨a, xs, e, _⟩ := h; exact ⟨_, e⟩
  | bx u => exact ⟨_, h.1⟩
  | raw v => exact ⟨_, h.2⟩
  | al i => obtain ⟨_, v, e, _⟩ := h; exact ⟨v, e⟩
theorem lift_al {K : PySem.W.Frag} {i : Nat} {σ : St} {H : Hp} {Q : VK} (h : lift K B (qAl i) σ H Q) : tVar i σ H Q := by
  obtain ⟨G, F, ρ, P, k, ⟨h0, h⟩, q⟩ := h
  cases e : ρ[i]? with
  | none => rw [e] at h0; exact h0.elim
  | some t =>
    rw [e] at h0
    obtain ⟨fp, k'⟩ := k.2
    obtain ⟨v, e1⟩ := own_some (k'.own i t e) (by rintro rfl; exact h0)
    have e2 := join_get e1
    refine ⟨v, e2, q _ _ _ _ _ h ⟨k.1, k.2.pushAl e2, fun j z => ?_⟩ (Same.refl F)⟩
    cases z
    exact (List.getElem?_eq_some_iff.mp e).1
theorem q_al (i : Nat) {x : Str} (hN : X.N[i]? = some x := by rfl) (hv : Vis X.env.scope x := by first | exact Or.inl rfl | exact Or.inr (Or.inl rfl) | exact Or.inr (Or.inr rfl)) (hd : (x == ("__debug__" : Str)) = false := by decide)
    (hcd : (x == ("__classdict__" : Str)) = false := by decide) : PE X (.Name x pos) (lift X.K B (qAl i)) := weakE (pe_var hN hv hd hcd) fun _ _ _ => lift_al

/-! ### operators by data -/
def OpD (K : PySem.W.Frag) (B : Box) (r0 : R2) (p : D → D → (T → Prop) → Prop) : Prop := ∀ (G F H : Hp) (σ : St) (ρ : Env) (P : T → Prop) (Q : VK) (d1 d2 : D) (v1 v2 : V), St0 K B G F H σ ρ → Rq K F H v1 d1 → Rq K F H v2 d2 → p d1 d2 P →
  (∀ r v H' F', P r → Fl K B G F' H' σ ρ v r → Same F F' → Q v H') → r0 v1 v2 H Q
def qOp (p : D → D → (T → Prop) → Prop) (ta tb : QE) (ρ : Env) (Q : T → Env → Prop) : Prop := ta ρ fun r1 ρ1 => tb ρ1 fun r2 ρ2 => match r1.w.dat ρ2, r2.w.dat ρ2 with
  | some d1, some d2 => p d1 d2 fun r => Q r ρ2
  | _, _ => False
variable {a b : Expr} {ta tb : QE} {r0 : R2} {p : D → D → (T → Prop) → Prop}
theorem lift_op (hp : OpD X.K B r0 p) {σ : St} {H : Hp} {Q : VK} (h : lift X.K B (qOp p ta tb) σ H Q) : tOp r0 (lift X.K B ta) (lift X.K B tb) σ H Q := by
  obtain ⟨G, F, ρ, P, k, h, q⟩ := h
  refine lift_use k h fun r1 ρ1 v1 H1 F1 h1 k1 w1 e1 => lift_use k1 h1 fun r2 ρ2 v2 H2 F2 h2 k2 w2 e2 => ?_
  split at h2
  · rename_i d1 d2 g1 g2
    exact hp _ _ _ _ _ _ _ _ _ _ _ k2 (k2.read (w1.mono e2) g1) (k2.read w2 g2) h2 fun r v H' F' p' fl e => q r ρ2 v H' F' p' fl ((e1.trans e2).trans e)
  · exact h2.elim
theorem q_op {op : Operator} (hp : OpD X.K B r0 p) (ho : OpR X (binaryOp op) r0) (ha : PE X a (lift X.K B ta)) (hb : PE X b (lift X.K B tb)) : PE X (.BinOp a op b pos) (lift X.K B (qOp p ta tb)) :=
  weakE (pe_op ho ha hb) fun _ _ _ => lift_op hp
theorem q_cmp {op : CmpOp} (hp : OpD X.K B r0 p) (ho : OpR X (compareOp op) r0) (ha : PE X a (lift X.K B ta)) (hb : PE X b (lift X.K B tb)) (hm : behindInMarks op b = false) : PE X (.Compare a [op] [b] pos) (lift X.K B (qOp p ta tb)) :=
  weakE (pe_cmpR ho ha hb hm) fun _ _ _ => lift_op hp
/-- a value as a test -/
def qTst (t : QE) (ρ : Env) (Q : Bool → Env → Prop) : Prop := t ρ fun r ρ' => match r with
  | .d (.bool b) => Q b ρ'
  | _ => False
theorem fl_d {K : PySem.W.Frag} {G F H : Hp} {σ : St} {ρ : Env} {v : V} {d : D} (k : Fl K B G F H σ ρ v (.d d)) : Rp K F v d := by
  have hl : σ.length = ρ.length := by have := k.ok.len; simpa using this
  obtain ⟨w, e, q⟩ := k.ok.var (i := ρ.length) (d := d) getA_eq
  rw [getLastA hl.symm] at e
  cases e
  exact q
theorem fl_b {K : PySem.W.Frag} {G F H : Hp} {σ : St} {ρ : Env} {v : V} {b : Bool} (k : Fl K B G F H σ ρ v (.d (.bool b))) : v = .bl b := by
  have := fl_d k
  cases this
  rfl
theorem t_cmp {op : CmpOp} (hp : OpD X.K B r0 p) (ho : OpR X (compareOp op) r0) (ha : PE X a (lift X.K B ta)) (hb : PE X b (lift X.K B tb)) (hm : behindInMarks op b = false) : PT X (.Compare a [op] [b] pos) (liftT X.K B (qTst (qOp p ta tb))) :=
  weakT (pt_cmpR ho ha hb hm) fun σ H Q ⟨G, F, ρ, P, k, h, q⟩ => lift_op hp (B := B) ⟨G, F, ρ, _, k, h, fun r ρ' v H' F' p' fl e => by
    split at p'
    · exact ⟨_, fl_b fl, q _ _ _ _ p' fl.pop e⟩
    · exact p'.elim⟩
theorem t_val {e : Expr} {t : QE} (h : PE X e (lift X.K B t)) (he : ∀ whole, isTrue e X.env whole = (do let v ← whole; standAt e.pos; holding [v] (truthy v)) := by intro _; rfl) : PT X e (liftT X.K B (qTst t)) :=
  weakT (pt_val h he) fun σ H Q ⟨G, F, ρ, P, k, h, q⟩ => ⟨G, F, ρ, _, k, h, fun r ρ' v H' F' p' fl e => by
    split at p'
    · exact ⟨_, fl_b fl, q _ _ _ _ p' fl.pop e⟩
    · exact p'.elim⟩
/-! ### and, or, not, if -/
def qAnd (t u : QT) (ρ : Env) (Q : Bool → Env → Prop) : Prop := t ρ fun c ρ1 => if c = true then u ρ1 Q else Q false ρ1
def qOr (t u : QT) (ρ : Env) (Q : Bool → Env → Prop) : Prop := t ρ fun c ρ1 => if c = true then Q true ρ1 else u ρ1 Q
def qNot (t : QT) (ρ : Env) (Q : Bool → Env → Prop) : Prop := t ρ fun c ρ1 => Q (!c) ρ1
variable {tA tB : QT} {rest : List Expr}
theorem w_and1 (ha : PT X a (liftT X.K B tA)) : PW X (.BoolOp .And [a] pos) (liftT X.K B tA) := pw_and1 ha
theorem w_or1 (ha : PT X a (liftT X.K B tA)) : PW X (.BoolOp .Or [a] pos) (liftT X.K B tA) := pw_or1 ha
theorem w_and (ha : PT X a (liftT X.K B tA)) (hb : PW X (.BoolOp .And (b :: rest) pos) (liftT X.K B tB)) : PW X (.BoolOp .And (a :: b :: rest) pos) (liftT X.K B (qAnd tA tB)) :=
  weakW (pw_and ha hb) fun σ H Q ⟨G, F, ρ, P, k, h, q⟩ => liftT_use k h fun c ρ1 H1 F1 h1 k1 e1 => by
    cases c with
    | true => exact liftT_use k1 h1 fun b' ρ2 H2 F2 h2 k2 e2 => q b' ρ2 H2 F2 h2 k2 (e1.trans e2)
    | false => exact q false ρ1 H1 F1 h1 k1 e1
theorem w_or (ha : PT X a (liftT X.K B tA)) (hb : PW X (.BoolOp .Or (b :: rest) pos) (liftT X.K B tB)) : PW X (.BoolOp .Or (a :: b :: rest) pos) (liftT X.K B (qOr tA tB)) :=
  weakW (pw_or ha hb) fun σ H Q ⟨G, F, ρ, P, k, h, q⟩ => liftT_use k h fun c ρ1 H1 F1 h1 k1 e1 => by
    cases c with
    | true => exact q true ρ1 H1 F1 h1 k1 e1
    | false => exact liftT_use k1 h1 fun b' ρ2 H2 F2 h2 k2 e2 => q b' ρ2 H2 F2 h2 k2 (e1.trans e2)
theorem t_not (ha : PT X a (liftT X.K B tA)) : PT X (.UnaryOp .Not a pos) (liftT X.K B (qNot tA)) :=
  weakT (pt_not ha) fun σ H Q ⟨G, F, ρ, P, k, h, q⟩ => liftT_use k h fun c ρ1 H1 F1 h1 k1 e1 => q _ ρ1 H1 F1 h1 k1 e1
/-- and, or as values: all are bools -/
def qAndV (ta tb : QE) (ρ : Env) (Q : T → Env → Prop) : Prop := ta ρ fun r ρ1 => match r with
  | .d (.bool true) => tb ρ1 Q
  | .d (.bool false) => Q (.d (.bool false)) ρ1
  | _ => False
def qOrV (ta tb : QE) (ρ : Env) (Q : T → Env → Prop) : Prop := ta ρ fun r ρ1 => match r with
  | .d (.bool false) => tb ρ1 Q
  | .d (.bool true) => Q (.d (.bool true)) ρ1
  | _ => False
def qNotV (ta : QE) (ρ : Env) (Q : T → Env → Prop) : Prop := ta ρ fun r ρ1 => match r with
  | .d (.bool b) => Q (.d (.bool !b)) ρ1
  | _ => False
theorem q_one {op} {t : QE} (h : PE X a (lift X.K B t)) : PE X (.BoolOp op [a] pos) (lift X.K B t) := pe_one h
theorem q_and (ha : PE X a (lift X.K B ta)) (hb : PE X (.BoolOp .And (b :: rest) pos) (lift X.K B tb)) : PE X (.BoolOp .And (a :: b :: rest) pos) (lift X.K B (qAndV ta tb)) :=
  weakE (pe_and ha hb) fun σ H Q ⟨G, F, ρ, P, k, h, q⟩ => ⟨G, F, ρ, _, k, h, fun r ρ1 v H1 F1 h1 fl e1 => by
    split at h1
    · exact ⟨true, fl_b fl, iteT ⟨G, F1, ρ1, _, fl.pop, h1, fun r2 ρ2 v2 H2 F2 h2 fl2 e2 => q r2 ρ2 v2 H2 F2 h2 fl2 (e1.trans e2)⟩⟩
    · exact ⟨false, fl_b fl, iteF (q _ _ _ _ _ h1 (fl.pop.d (.bl false)) e1)⟩
    · exact h1.elim⟩
theorem q_or (ha : PE X a (lift X.K B ta)) (hb : PE X (.BoolOp .Or (b :: rest) pos) (lift X.K B tb)) : PE X (.BoolOp .Or (a :: b :: rest) pos) (lift X.K B (qOrV ta tb)) :=
  weakE (pe_or ha hb) fun σ H Q ⟨G, F, ρ, P, k, h, q⟩ => ⟨G, F, ρ, _, k, h, fun r ρ1 v H1 F1 h1 fl e1 => by
    split at h1
    · exact ⟨false, fl_b fl, iteF ⟨G, F1, ρ1, _, fl.pop, h1, fun r2 ρ2 v2 H2 F2 h2 fl2 e2 => q r2 ρ2 v2 H2 F2 h2 fl2 (e1.trans e2)⟩⟩
    · exact ⟨true, fl_b fl, iteT (q _ _ _ _ _ h1 (fl.pop.d (.bl true)) e1)⟩
    · exact h1.elim⟩
theorem q_not (ha : PE X a (lift X.K B ta)) : PE X (.UnaryOp .Not a pos) (lift X.K B (qNotV ta)) :=
  weakE (pe_not ha) fun σ H Q ⟨G, F, ρ, P, k, h, q⟩ => ⟨G, F, ρ, _, k, h, fun r ρ1 v H1 F1 h1 fl e1 => by
    split at h1
    · exact ⟨_, fl_b fl, q _ _ _ _ _ h1 (fl.pop.d (.bl _)) e1⟩
    · exact h1.elim⟩
def qIf (t : QT) (ta tb : QE) (ρ : Env) (Q : T → Env → Prop) : Prop := t ρ fun c ρ1 => if c = true then ta ρ1 Q else tb ρ1 Q
theorem q_if {c : Expr} (hc : PT X c (liftT X.K B tA)) (ha : PE X a (lift X.K B ta)) (hb : PE X b (lift X.K B tb)) : PE X (.IfExp c a b pos) (lift X.K B (qIf tA ta tb)) :=
  weakE (pe_ifExp hc ha hb) fun σ H Q ⟨G, F, ρ, P, k, h, q⟩ => liftT_use k h fun c ρ1 H1 F1 h1 k1 e1 => by
    cases c with
    | true => exact iteT ⟨G, F1, ρ1, _, k1, h1, fun r2 ρ2 v2 H2 F2 h2 fl2 e2 => q r2 ρ2 v2 H2 F2 h2 fl2 (e1.trans e2)⟩
    | false => exact iteF ⟨G, F1, ρ1, _, k1, h1, fun r2 ρ2 v2 H2 F2 h2 fl2 e2 => q r2 ρ2 v2 H2 F2 h2 fl2 (e1.trans e2)⟩

/-! ### argument lists, displays -/
def qNil (ρ : Env) (Q : List W → Env → Prop) : Prop := Q [] ρ
def qCons (ta : QE) (tr : QA) (ρ : Env) (Q : List W → Env → Prop) : Prop := ta ρ fun r ρ1 => tr ρ1 fun ws ρ2 => Q (r.w :: ws) ρ2
theorem a_nil : PA X [] (liftA X.K B qNil) := weakA pa_nil fun σ H Q ⟨G, F, ρ, P, k, h, q⟩ => q [] ρ [] H F h k .nil (Same.refl F)
variable {e : Expr} {es : List Expr} {te : QE} {t : QA}
theorem a_cons (ha : PE X e (lift X.K B te)) (hr : PA X es (liftA X.K B t)) (hs : starEach (e :: es) X.env = (false, eval e X.env) :: starEach es X.env := by rfl) : PA X (e :: es) (liftA X.K B (qCons te t)) :=
  weakA (pa_cons ha hr hs) fun σ H Q ⟨G, F, ρ, P, k, h, q⟩ => lift_use k h fun r1 ρ1 v1 H1 F1 h1 k1 w1 e1 => liftA_use k1 h1 fun ws ρ2 vs H2 F2 h2 k2 w2 e2 => q _ ρ2 (v1 :: vs) H2 F2 h2 k2 (.cons (w1.mono e2) w2) (e1.trans e2)
/-- frozen data alone -/
def wsD : List W → Option (List D)
  | [] => some []
  | .d x :: r => (wsD r).map (x :: ·)
  | _ :: _ => none
theorem wsD_ok {K : PySem.W.Frag} {F : Hp} {σ : St} : ∀ {ws : List W} {vs : List V} {ds : List D}, WsOk K F σ ws vs → wsD ws = some ds → RpAll K F vs ds
  | _, _, ds, .nil, e => by
    obtain rfl : [] = ds := Option.some.inj e
    exact .nil
  | .d x :: ws, _, ds, .cons h r, e => by
    cases q : wsD ws with
    | none => simp [wsD, q] at e
    | some es =>
      simp [wsD, q] at e
      subst e
      exact .cons h (wsD_ok r q)
  | .raw _ :: ws, _, ds, .cons h r, e => nomatch e
  | .al _ :: ws, _, ds, .cons h r, e => nomatch e
  | .no :: ws, _, ds, .cons h r, e => nomatch e
def qTup (t : QA) (ρ : Env) (Q : T → Env → Prop) : Prop := t ρ fun ws ρ1 => match wsD ws with
  | some ds => ds.length ≤ sizeLine ∧ Q (.d (.tuple ds)) ρ1
  | none => False
def qLst (t : QA) (ρ : Env) (Q : T → Env → Prop) : Prop := t ρ fun ws ρ1 => match wsD ws with
  | some ds => ds.length ≤ sizeLine ∧ Q (.l ds) ρ1
  | none => False
theorem q_tup {x1} (h : PA X es (liftA X.K B t)) : PE X (.Tuple es x1 pos) (lift X.K B (qTup t)) :=
  weakE (pe_tup h) fun σ H Q ⟨G, F, ρ, P, k, h, q⟩ => liftA_use k h fun ws ρ1 vs H1 F1 h1 k1 w1 e1 => by
    split at h1
    · rename_i ds e
      obtain ⟨h2, h3⟩ := h1
      have r := wsD_ok w1 e
      refine ⟨by rw [r.length]; exact h2, fun p hp => ?_⟩
      obtain ⟨fl, e2⟩ := k1.newT hp r
      exact q _ _ _ _ _ h3 fl (e1.trans e2)
    · exact h1.elim
theorem q_lst (h : PA X es (liftA X.K B t)) : PE X (.List es pos) (lift X.K B (qLst t)) :=
  weakE (pe_lst h) fun σ H Q ⟨G, F, ρ, P, k, h, q⟩ => liftA_use k h fun ws ρ1 vs H1 F1 h1 k1 w1 e1 => by
    split at h1
    · rename_i ds e
      obtain ⟨h2, h3⟩ := h1
      have r := wsD_ok w1 e
      exact ⟨by rw [r.length]; exact h2, fun p hp => q _ _ _ _ _ h3 (k1.newL hp r) e1⟩
    · exact h1.elim
/-- data of one's own too -/
def wsR (ρ : Env) : List W → Option (List D)
  | [] => some []
  | u :: r => match u.dat ρ, wsR ρ r with
    | some d, some ds => some (d :: ds)
    | _, _ => none
inductive RqAll (K : PySem.W.Frag) (F H : Hp) : List V → List D → Prop
  | nil : RqAll K F H [] []
  | cons {v : V} {vs : List V} {d : D} {ds : List D} : Rq K F H v d → RqAll K F H vs ds → RqAll K F H (v :: vs) (d :: ds)
theorem wsR_ok {K : PySem.W.Frag} {G F H : Hp} {σ : St} {ρ : Env} (k : St0 K B G F H σ ρ) : ∀ {ws : List W} {vs : List V} {ds : List D}, WsOk K F σ ws vs → wsR ρ ws = some ds → RqAll K F H vs ds
  | _, _, ds, .nil, e => by
    obtain rfl : [] = ds := Option.some.inj e
    exact .nil
  | u :: ws, _, ds, .cons h r, e => by
    unfold wsR at e
    split at e
    · rename_i d' ds' g1 g2
      obtain rfl := Option.some.inj e
      exact .cons (k.read h g1) (wsR_ok k r g2)
    · cases e
/-- a call of a built-in, by data -/
def CallD (K : PySem.W.Frag) (B : Box) (r0 : List V → Hp → VK → Prop) (p : List D → (T → Prop) → Prop) : Prop := ∀ (G F H : Hp) (σ : St) (ρ : Env) (P : T → Prop) (Q : VK) (ds : List D) (vs : List V), St0 K B G F H σ ρ → RqAll K F H vs ds → p ds P →
  (∀ r v H' F', P r → Fl K B G F' H' σ ρ v r → Same F F' → Q v H') → r0 vs H Q
def qCall (p : List D → (T → Prop) → Prop) (t : QA) (ρ : Env) (Q : T → Env → Prop) : Prop := t ρ fun ws ρ1 => match wsR ρ1 ws with
  | some ds => p ds fun r => Q r ρ1
  | none => False
variable {rc : List V → Hp → VK → Prop} {pc : List D → (T → Prop) → Prop}
theorem lift_call (hp : CallD X.K B rc pc) {σ : St} {H : Hp} {Q : VK} (h : lift X.K B (qCall pc t) σ H Q) : tCB rc (liftA X.K B t) σ H Q := by
  obtain ⟨G, F, ρ, P, k, h, q⟩ := h
  refine liftA_use k h fun ws ρ1 vs H1 F1 h1 k1 w1 e1 => ?_
  split at h1
  · rename_i ds g
    exact hp _ _ _ _ _ _ _ _ _ k1 (wsR_ok k1 w1 g) h1 fun r v H' F' p' fl e => q r ρ1 v H' F' p' fl (e1.trans e)
  · exact h1.elim
theorem q_callB {x : Str} {p : Pos} {id : String} (hp : CallD X.K B rc pc) (hc : CallR X (.builtin id) rc) (hg : Gl X x) (hm : X.mg x = none) (hv : bootBuiltins x = some (.builtin id)) (ha : PA X (e :: es) (liftA X.K B t)) (hn : x ≠ "__name__" := by decide) (hdb : (x == ("__debug__" : Str)) = false := by decide)
    (he : starEach (e :: es) X.env = (false, eval e X.env) :: starEach es X.env := by rfl) (hpl : (backTo pos (starEach es X.env)).any (·.1) = false := by rfl) :
    PE X (.Call (.Name x p) (e :: es) [] pos) (lift X.K B (qCall pc t)) := weakE (pe_callB hc hg hm hv ha hn hdb he hpl) fun _ _ _ => lift_call hp
theorem q_callTy {x : Str} {p : Pos} {id : String} (hp : CallD X.K B rc pc) (hc : CallR X (.type id) rc) (hg : Gl X x) (hm : X.mg x = none) (hv : bootBuiltins x = some (.type id)) (ha : PA X (e :: es) (liftA X.K B t)) (hn : x ≠ "__name__" := by decide) (hdb : (x == ("__debug__" : Str)) = false := by decide)
    (he : starEach (e :: es) X.env = (false, eval e X.env) :: starEach es X.env := by rfl) (hpl : (backTo pos (starEach es X.env)).any (·.1) = false := by rfl) :
    PE X (.Call (.Name x p) (e :: es) [] pos) (lift X.K B (qCall pc t)) := weakE (pe_callTy hc hg hm hv ha hn hdb he hpl) fun _ _ _ => lift_call hp
end
end PL

set_option Elab.async false
set_option linter.all false
set_option maxRecDepth 100000
/-! PL, part 3: operators, comparisons, subscripts, slices. -/
namespace PL
open PySem PySem.Spec L2

section
variable {K : PySem.W.Frag} {B : Box}
/-! ### arithmetic -/
def bi (b : Bool) : Int := if b then 1 else 0
def pAdd : D → D → (T → Prop) → Prop
  | .int i, .int j, Q => Q (.d (.int (i + j)))
  | .str a, .str b, Q => a.length + b.length ≤ sizeLine ∧ Q (.d (.str (a ++ b)))
  | .tuple xs, .tuple ys, Q => xs.length + ys.length ≤ sizeLine ∧ Q (.d (.tuple (xs ++ ys)))
  | .list xs, .list ys, Q => xs.length + ys.length ≤ sizeLine ∧ Q (.l (xs ++ ys))
  | .bool a, .bool b, Q => Q (.d (.int (bi a + bi b)))
  | _, _, _ => False
def rAddP (K : PySem.W.Frag) : R2 := fun x y H Q => rI0 (fun i j => .int (i + j)) x y H Q ∨ (∃ i j, x = .str i ∧ y = .str j ∧ i.length + j.length ≤ sizeLine ∧ Q (.str (i ++ j)) H) ∨ rCatA K x y H Q ∨ rCat x y H Q ∨
  ∃ i j, x = .bl i ∧ y = .bl j ∧ Q (.int (bi i + bi j)) H
theorem op_add_bb {X : Cx} : OpR X (binaryOp .Add) (fun x y H Q => ∃ i j, x = .bl i ∧ y = .bl j ∧ Q (.int (bi i + bi j)) H) := by
  intro pins s σ H x y v u Q I rx ry h
  obtain ⟨i, k, rfl, rfl, q⟩ := h
  cases rx
  cases ry
  have q' : EP X pins σ Q (.int (bi i + bi k) s.toks) { s with toks := s.toks + 1 } := ⟨.int (bi i + bi k), H, I.tok _, ⟨_, rfl⟩, q⟩
  exact PyProof.Rows.add_bool (by cases i <;> cases k <;> exact q')
theorem op_addP {X : Cx} : OpR X (binaryOp .Add) (rAddP X.K) := op_add.or (op_add_str.or (op_catA.or (op_cat.or op_add_bb)))
theorem o_add : OpD K B (rAddP K) pAdd := by
  intro G F H σ ρ P Q d1 d2 v1 v2 k r1 r2 h q
  unfold pAdd at h
  split at h
  · exact .inl ⟨_, _, r1.int, r2.int, q _ _ _ _ h (k.d (.int _)) (Same.refl F)⟩
  · exact .inr (.inl ⟨_, _, r1.str, r2.str, h.1, q _ _ _ _ h.2 (k.d (.str _)) (Same.refl F)⟩)
  · obtain ⟨a, xs, rfl, s1, t1⟩ := r1.tup
    obtain ⟨b, ys, rfl, s2, t2⟩ := r2.tup
    refine .inr (.inr (.inl ⟨a, b, xs, ys, rfl, rfl, same_t k.2.f s1, same_t k.2.f s2, by rw [t1.length, t2.length]; exact h.1, fun e => ?_, fun e e' => ?_, fun _ _ p hp => ?_⟩))
    · subst e
      cases t1
      exact q _ _ _ _ h.2 (k.d (.tup s2 t2)) (Same.refl F)
    · subst e'
      cases t2
      refine q _ _ _ _ h.2 (k.d ?_) (Same.refl F)
      rw [List.append_nil]
      exact .tup s1 t1
    · obtain ⟨fl, e⟩ := k.newT hp (t1.append t2)
      exact q _ _ _ _ h.2 fl e
  · obtain ⟨a, xs, rfl, s1, t1⟩ := r1.lst k.2.f
    obtain ⟨b, ys, rfl, s2, t2⟩ := r2.lst k.2.f
    exact .inr (.inr (.inr (.inl ⟨a, b, xs, ys, rfl, rfl, s1, s2, by rw [t1.length, t2.length]; exact h.1, fun p hp => q _ _ _ _ h.2 (k.newL hp (t1.append t2)) (Same.refl F)⟩)))
  · exact .inr (.inr (.inr (.inr ⟨_, _, r1.bool, r2.bool, q _ _ _ _ h (k.d (.int _)) (Same.refl F)⟩)))
  · exact h.elim
/-- two ints by a condition -/
def pI (C : Int → Int → Prop) (g : Int → Int → Int) : D → D → (T → Prop) → Prop
  | .int i, .int j, Q => C i j ∧ Q (.d (.int (g i j)))
  | _, _, _ => False
theorem o_I {C : Int → Int → Prop} {g : Int → Int → Int} : OpD K B (rI C fun i j => .int (g i j)) (pI C g) := by
  intro G F H σ ρ P Q d1 d2 v1 v2 k r1 r2 h q
  unfold pI at h
  split at h
  · exact ⟨_, _, r1.int, r2.int, h.1, q _ _ _ _ h.2 (k.d (.int _)) (Same.refl F)⟩
  · exact h.elim
def pI0 (g : Int → Int → Int) : D → D → (T → Prop) → Prop
  | .int i, .int j, Q => Q (.d (.int (g i j)))
  | _, _, _ => False
theorem o_I0 {g : Int → Int → Int} : OpD K B (rI0 fun i j => .int (g i j)) (pI0 g) := by
  intro G F H σ ρ P Q d1 d2 v1 v2 k r1 r2 h q
  unfold pI0 at h
  split at h
  · exact ⟨_, _, r1.int, r2.int, q _ _ _ _ h (k.d (.int _)) (Same.refl F)⟩
  · exact h.elim
abbrev pSub := pI0 fun i j => i - j
theorem o_sub : OpD K B (rI0 fun i j => .int (i - j)) pSub := o_I0
abbrev pFdiv := pI CDivN fun i j => i.fdiv j
theorem o_fdiv : OpD K B (rI CDivN fun i j => .int (i.fdiv j)) pFdiv := o_I
abbrev pMod := pI (fun _ j => j ≠ 0) fun i j => i.fmod j
theorem o_mod : OpD K B (rI (fun _ j => j ≠ 0) fun i j => .int (i.fmod j)) pMod := o_I
abbrev pPow := pI CPow fun i j => i ^ j.toNat
theorem o_pow : OpD K B (rI CPow fun i j => .int (i ^ j.toNat)) pPow := o_I
/-- tuple * 1 is the tuple itself -/
theorem tuple_mul1 (l : Addr) (items : Array Value) (n : Nat) (dd : Option Addr) (sl : Array (Option Value)) (u : Tok) :
    Meets (Builtin.«tuple.__mul__» ⟨[.ref l, .int 1 u], []⟩) (fun _ R s => s.heap.get? l = some { cls := .type "tuple", dict := dd, data := .seq items n, slots := sl } ∧ R (.ok (.ret (Value.ref l))) s) :=
  .of_wp fun prog w A R s h => by
    obtain ⟨hp, g, d, tk, os⟩ := s
    obtain ⟨hl, h⟩ := h
    have f1 := AutoSeq1.idx_int
    have c0 : (decide ((1 : Int) < -(2 ^ 63)) || decide ((1 : Int) ≥ 2 ^ 63)) = false := by decide
    have c1 : (items.isEmpty || (1 : Int) == 1) = true := by simp
    wp_walk using wpAny_loadPart' hl
    repeat (first
      | (refine wpAny_ite_false (decide_eq_false (by rw [c0]; exact Bool.false_ne_true)) ?_; wp_walk using wpAny_loadPart' hl)
      | (refine wpAny_ite_true (decide_eq_true c1) ?_; wp_walk using wpAny_loadPart' hl))
    all_goals first | exact ⟨_, rfl, h⟩ | skip

def rRep1 (K : PySem.W.Frag) : R2 := fun x y H Q => ∃ l xs, x = .ref l ∧ y = .int 1 ∧ SqT K H l xs ∧ Q (.ref l) H
theorem op_repT1 {X : Cx} : OpR X (binaryOp .Mult) (rRep1 X.K) := by
  intro pins s σ H x y v u Q I rx ry h
  obtain ⟨l, xs, rfl, rfl, hT, q⟩ := h
  cases rx
  obtain ⟨t, rfl⟩ := ry
  obtain ⟨its, r, ⟨⟨cls, dd, data, sl⟩, ho, hc, n, hd⟩, hs⟩ := I.tuple hT
  simp only at hc hd
  subst hc hd
  refine wpAny_binaryOp_repeat_ref (T := "tuple") (U := "int") (by decide) ⟨_, ho, rfl⟩ (fun s' => typeIs_int s' 1 t) noFill_tuple_mul F.fills_int_mul F.slot_int_rmul repeat_tuple F.slot_int_index.lookup
    (call_meets F.slot_int_rmul (typeIs_int s 1 t) F.entry_int_rmul (F.args_int_rmul_2 _ _) (int_rmul_tuple 1 t l its.toArray n dd sl)
      ⟨ho, rfl, ⟨_, ho, rfl⟩, call_meets F.slot_tuple_mul ⟨_, ho, rfl⟩ F.entry_tuple_mul (F.args_tuple_mul_2 _ _) (tuple_mul1 l its.toArray n dd sl t) ⟨ho, ⟨.ref l, H, I, rfl, q⟩⟩⟩)
theorem tuple_mulE (l : Addr) (items : Array Value) (n : Nat) (dd : Option Addr) (sl : Array (Option Value)) (x : Int) (u : Tok) (c0 : (decide (x < -(2 ^ 63)) || decide (x ≥ 2 ^ 63)) = false) (he : items.isEmpty = true) :
    Meets (Builtin.«tuple.__mul__» ⟨[.ref l, .int x u], []⟩) (fun _ R s => s.heap.get? l = some { cls := .type "tuple", dict := dd, data := .seq items n, slots := sl } ∧ R (.ok (.ret (Value.ref l))) s) :=
  .of_wp fun prog w A R s h => by
    obtain ⟨hp, g, d, tk, os⟩ := s
    obtain ⟨hl, h⟩ := h
    have f1 := AutoSeq1.idx_int
    have c1 : (items.isEmpty || x == 1) = true := by simp [he]
    wp_walk using wpAny_loadPart' hl
    repeat (first
      | (refine wpAny_ite_false (decide_eq_false (by rw [c0]; exact Bool.false_ne_true)) ?_; wp_walk using wpAny_loadPart' hl)
      | (refine wpAny_ite_true (decide_eq_true c1) ?_; wp_walk using wpAny_loadPart' hl))
    all_goals first | exact ⟨_, rfl, h⟩ | skip
theorem tuple_mul0 (l : Addr) (items : Array Value) (n : Nat) (dd : Option Addr) (sl : Array (Option Value)) (u : Tok) (he : items.isEmpty = false) :
    Meets (Builtin.«tuple.__mul__» ⟨[.ref l, .int 0 u], []⟩) (fun _ R s => s.heap.get? l = some { cls := .type "tuple", dict := dd, data := .seq items n, slots := sl } ∧
      R (.ok (.ret (Value.ref s.heap.objs.size))) { s with heap := s.heap.push { cls := Value.type "tuple", data := Data.seq #[] }, toks := s.toks }) :=
  .of_wp fun prog w A R s h => by
    obtain ⟨hp, g, d, tk, os⟩ := s
    obtain ⟨hl, h⟩ := h
    have f1 := AutoSeq1.idx_int
    have c0 : (decide ((0 : Int) < -(2 ^ 63)) || decide ((0 : Int) ≥ 2 ^ 63)) = false := by decide
    have c1 : (items.isEmpty || (0 : Int) == 1) = false := by simp [he]
    have c2 : (decide ((0 : Int) ≤ 0) || items.isEmpty) = true := by simp
    wp_walk using wpAny_loadPart' hl
    repeat (first
      | (refine wpAny_ite_false (decide_eq_false (by rw [c0]; exact Bool.false_ne_true)) ?_; wp_walk using wpAny_loadPart' hl)
      | (refine wpAny_ite_false (decide_eq_false (by rw [c1]; exact Bool.false_ne_true)) ?_; wp_walk using wpAny_loadPart' hl)
      | (refine wpAny_ite_true (decide_eq_true c2) ?_; wp_walk using wpAny_loadPart' hl))
    all_goals first | exact ⟨_, rfl, h⟩ | skip
def rRepE (K : PySem.W.Frag) : R2 := fun x y H Q => ∃ l k, x = .ref l ∧ y = .int k ∧ (0 ≤ k ∧ k ≤ 1000) ∧ SqT K H l [] ∧ Q (.ref l) H
theorem op_repTE {X : Cx} : OpR X (binaryOp .Mult) (rRepE X.K) := by
  intro pins s σ H x y v u Q I rx ry h
  obtain ⟨l, k, rfl, rfl, ⟨k0, k1⟩, hT, q⟩ := h
  cases rx
  obtain ⟨t, rfl⟩ := ry
  obtain ⟨its, r, ⟨⟨cls, dd, data, sl⟩, ho, hc, n, hd⟩, hs⟩ := I.tuple hT
  simp only at hc hd
  subst hc hd
  cases r
  refine wpAny_binaryOp_repeat_ref (T := "tuple") (U := "int") (by decide) ⟨_, ho, rfl⟩ (fun s' => typeIs_int s' k t) noFill_tuple_mul F.fills_int_mul F.slot_int_rmul repeat_tuple F.slot_int_index.lookup
    (call_meets F.slot_int_rmul (typeIs_int s k t) F.entry_int_rmul (F.args_int_rmul_2 _ _) (int_rmul_tuple k t l #[] n dd sl)
      ⟨ho, rfl, ⟨_, ho, rfl⟩, call_meets F.slot_tuple_mul ⟨_, ho, rfl⟩ F.entry_tuple_mul (F.args_tuple_mul_2 _ _) (tuple_mulE l #[] n dd sl k t (by simp; omega) rfl) ⟨ho, ⟨.ref l, H, I, rfl, q⟩⟩⟩)
def rRep0 (K : PySem.W.Frag) : R2 := fun x y H Q => ∃ l xs, x = .ref l ∧ y = .int 0 ∧ SqT K H l xs ∧ xs ≠ [] ∧ ∀ p, H p = none → Q (.ref p) (upd H p (.tup []))
theorem op_repT0 {X : Cx} : OpR X (binaryOp .Mult) (rRep0 X.K) := by
  intro pins s σ H x y v u Q I rx ry h
  obtain ⟨l, xs, rfl, rfl, hT, hne, q⟩ := h
  cases rx
  obtain ⟨t, rfl⟩ := ry
  obtain ⟨its, r, ⟨⟨cls, dd, data, sl⟩, ho, hc, n, hd⟩, hs⟩ := I.tuple hT
  simp only at hc hd
  subst hc hd
  have hi : its.toArray.isEmpty = false := by
    cases r with
    | nil => exact absurd rfl hne
    | cons a b => rfl
  have hf : H s.heap.objs.size = none := I.hok.fresh (Nat.le_refl _)
  refine wpAny_binaryOp_repeat_ref (T := "tuple") (U := "int") (by decide) ⟨_, ho, rfl⟩ (fun s' => typeIs_int s' 0 t) noFill_tuple_mul F.fills_int_mul F.slot_int_rmul repeat_tuple F.slot_int_index.lookup
    (call_meets F.slot_int_rmul (typeIs_int s 0 t) F.entry_int_rmul (F.args_int_rmul_2 _ _) (int_rmul_tuple 0 t l its.toArray n dd sl)
      ⟨ho, rfl, ⟨_, ho, rfl⟩, call_meets F.slot_tuple_mul ⟨_, ho, rfl⟩ F.entry_tuple_mul (F.args_tuple_mul_2 _ _) (tuple_mul0 l its.toArray n dd sl t hi) ⟨ho,
        ⟨.ref s.heap.objs.size, upd H s.heap.objs.size (.tup []), I.laid (t' := s.toks) (fun b u e => Heap.get?_push_of_some _ e) (Nat.le_refl _) ⟨Nat.zero_le _, [], .nil, ⟨_, Heap.get?_push_size _ rfl, rfl, _, rfl⟩⟩, rfl, q _ hf⟩⟩⟩)
theorem op_mulStr {X : Cx} : OpR X (binaryOp .Mult) (fun x y H Q => ∃ a n, x = .str a ∧ y = .int n ∧ (0 ≤ n ∧ n ≤ 1000 ∧ a.length ≤ 1000) ∧ Q (.str (Txt.mul a n)) H) := by
  intro pins s σ H x y v u Q I rx ry h
  obtain ⟨a, n, rfl, rfl, ⟨h0, h1, h2⟩, q⟩ := h
  obtain ⟨t, rfl⟩ := rx
  obtain ⟨t', rfl⟩ := ry
  have hm : a.length * n.toNat ≤ 1000000 := by
    have : a.length * n.toNat ≤ 1000 * 1000 := Nat.mul_le_mul h2 (by omega)
    omega
  refine PySem.SB.mul ⟨?_, fun hn _ => ?_, fun hn _ => ?_⟩ fun t' k => ⟨.str _, H, I.tok _, ⟨_, rfl⟩, q⟩
  · rw [decide_eq_false (by omega), decide_eq_false (by omega)] <;> rfl
  · have h9 : (1000 : Int) ≤ (2 ^ 63 - 1) / n := by
      rw [Int.le_ediv_iff_mul_le (by omega)]
      omega
    omega
  · unfold Builtin.Str.tooLong
    rw [sizeLine_eq]
    exact decide_eq_false (by omega)
def rMulP (K : PySem.W.Frag) : R2 := fun x y H Q => rI CMul (fun i j => .int (i * j)) x y H Q ∨ (∃ a n, x = .str a ∧ y = .int n ∧ (0 ≤ n ∧ n ≤ 1000 ∧ a.length ≤ 1000) ∧ Q (.str (Txt.mul a n)) H) ∨ rRepT K x y H Q ∨ rRep1 K x y H Q ∨ rRep0 K x y H Q ∨ rRepE K x y H Q ∨ rRep x y H Q
theorem op_mulP {X : Cx} : OpR X (binaryOp .Mult) (rMulP X.K) := op_mul.or (op_mulStr.or (op_repT.or (op_repT1.or (op_repT0.or (op_repTE.or op_rep)))))
def pMul : D → D → (T → Prop) → Prop
  | .int i, .int j, Q => CMul i j ∧ Q (.d (.int (i * j)))
  | .str a, .int n, Q => (0 ≤ n ∧ n ≤ 1000 ∧ a.length ≤ 1000) ∧ Q (.d (.str (Txt.mul a n)))
  | .tuple xs, .int n, Q => (0 ≤ n ∧ n ≤ 1000 ∧ xs.length ≤ 1000) ∧ Q (.d (.tuple (List.replicate n.toNat xs).flatten))
  | .list xs, .int n, Q => (-(2 ^ 63) ≤ n ∧ n < 2 ^ 63 ∧ xs.length * n.toNat ≤ sizeLine) ∧ Q (.l (List.replicate n.toNat xs).flatten)
  | _, _, _ => False
theorem o_mul : OpD K B (rMulP K) pMul := by
  intro G F H σ ρ P Q d1 d2 v1 v2 k r1 r2 h q
  unfold pMul at h
  split at h
  · exact .inl ⟨_, _, r1.int, r2.int, h.1, q _ _ _ _ h.2 (k.d (.int _)) (Same.refl F)⟩
  · exact .inr (.inl ⟨_, _, r1.str, r2.int, h.1, q _ _ _ _ h.2 (k.d (.str _)) (Same.refl F)⟩)
  · rename_i xs n
    obtain ⟨a, vs, rfl, s1, t1⟩ := r1.tup
    obtain ⟨⟨h1, h2, h3⟩, h⟩ := h
    by_cases e0 : xs = []
    · subst e0
      cases t1
      have e : (List.replicate n.toNat ([] : List D)).flatten = [] := by simp
      rw [e] at h
      exact .inr (.inr (.inr (.inr (.inr (.inl ⟨a, n, rfl, r2.int, ⟨h1, h2⟩, same_t k.2.f s1, q _ _ _ _ h (k.d (.tup s1 .nil)) (Same.refl F)⟩)))))
    by_cases e : n = 1
    · subst e
      refine .inr (.inr (.inr (.inl ⟨a, vs, rfl, r2.int, same_t k.2.f s1, q _ _ _ _ h (k.d ?_) (Same.refl F)⟩)))
      have e : (List.replicate (1 : Int).toNat xs).flatten = xs := by
        rw [show (1 : Int).toNat = 1 from rfl]
        simp
      rw [e]
      exact .tup s1 t1
    · by_cases e2 : n = 0
      · subst e2
        refine .inr (.inr (.inr (.inr (.inl ⟨a, vs, rfl, r2.int, same_t k.2.f s1, ?_, fun p hp => ?_⟩))))
        · rintro rfl
          cases t1
          exact e0 rfl
        · obtain ⟨fl, e⟩ := k.newT hp (.nil (K := K))
          exact q _ _ _ _ h fl e
      refine .inr (.inr (.inl ⟨a, n, vs, rfl, r2.int, same_t k.2.f s1, ?_, by omega, h2, by rw [t1.length]; exact h3, fun p hp => ?_⟩))
      · rintro rfl
        cases t1
        exact e0 rfl
      · obtain ⟨fl, e⟩ := k.newT hp (t1.rep n.toNat)
        exact q _ _ _ _ h fl e
  · obtain ⟨a, vs, rfl, s1, t1⟩ := r1.lst k.2.f
    exact .inr (.inr (.inr (.inr (.inr (.inr ⟨a, _, vs, rfl, r2.int, s1, h.1.1, h.1.2.1, by rw [t1.length]; exact h.1.2.2, fun p hp => q _ _ _ _ h.2 (k.newL hp (t1.rep _)) (Same.refl F)⟩)))))
  · exact h.elim

/-! ### comparisons -/
/-- data that == takes -/
def okD (d : D) : Bool := SeqAt.shaped d
mutual
theorem nod_of : ∀ d : D, d.canLay0 = true → nod d = true
  | .none, _ => by simp only [nod]
  | .bool _, _ => by simp only [nod]
  | .int _, _ => by simp only [nod]
  | .str _, _ => by simp only [nod]
  | .list xs, h => by
    simp only [nod]
    exact nodAll_of xs (by simpa [PyData.canLay0] using h)
  | .tuple xs, h => by
    simp only [nod]
    exact nodAll_of xs (by simpa [PyData.canLay0] using h)
  | .dict _, h => by simp [PyData.canLay0] at h
theorem nodAll_of : ∀ xs : List D, PyData.canLayAll0 xs = true → nodAll xs = true
  | [], _ => by simp only [nodAll]
  | x :: xs, h => by
    have h' : x.canLay0 = true ∧ PyData.canLayAll0 xs = true := by simpa [PyData.canLayAll0] using h
    simp only [nodAll, nod_of x h'.1, nodAll_of xs h'.2, Bool.and_self]
end
theorem Rq.dpS {F H : Hp} {v : V} {d : D} (f : Same F H) (h : Rq K F H v d) (n : SeqAt.shaped d = true) : Dp K H v d := h.dp f (nod_of d (SeqAt.canLay_of_shaped n))
def pEq : D → D → (T → Prop) → Prop := fun d e Q => SeqAt.shaped d = true ∧ SeqAt.shaped e = true ∧ Q (.d (.bool (PyData.eqv d e)))
def pNe : D → D → (T → Prop) → Prop := fun d e Q => SeqAt.shaped d = true ∧ SeqAt.shaped e = true ∧ Q (.d (.bool (!PyData.eqv d e)))
theorem o_eq : OpD K B (rEqD K) pEq := by
  intro G F H σ ρ P Q d1 d2 v1 v2 k r1 r2 h q
  exact ⟨d1, d2, r1.dpS k.2.f h.1, r2.dpS k.2.f h.2.1, h.1, h.2.1, q _ _ _ _ h.2.2 (k.d (.bl _)) (Same.refl F)⟩
theorem o_ne : OpD K B (rNeD K) pNe := by
  intro G F H σ ρ P Q d1 d2 v1 v2 k r1 r2 h q
  exact ⟨d1, d2, r1.dpS k.2.f h.1, r2.dpS k.2.f h.2.1, h.1, h.2.1, q _ _ _ _ h.2.2 (k.d (.bl _)) (Same.refl F)⟩
/-- order of ints -/
def pOrd (f : Int → Int → Bool) : D → D → (T → Prop) → Prop
  | .int i, .int j, Q => Q (.d (.bool (f i j)))
  | _, _, _ => False
theorem o_ord {f : Int → Int → Bool} : OpD K B (rI0 fun i j => .bl (f i j)) (pOrd f) := by
  intro G F H σ ρ P Q d1 d2 v1 v2 k r1 r2 h q
  unfold pOrd at h
  split at h
  · exact ⟨_, _, r1.int, r2.int, q _ _ _ _ h (k.d (.bl _)) (Same.refl F)⟩
  · exact h.elim
abbrev pLt := pOrd fun i j => decide (i < j)
abbrev pLe := pOrd fun i j => decide (i ≤ j)
abbrev pGt := pOrd fun i j => decide (j < i)
abbrev pGe := pOrd fun i j => decide (j ≤ i)
theorem o_lt : OpD K B (rI0 fun i j => .bl (decide (i < j))) pLt := o_ord
theorem o_le : OpD K B (rI0 fun i j => .bl (decide (i ≤ j))) pLe := o_ord
theorem o_gt : OpD K B (rI0 fun i j => .bl (decide (j < i))) pGt := o_ord
theorem o_ge : OpD K B (rI0 fun i j => .bl (decide (j ≤ i))) pGe := o_ord
/-- in, not in: a text in a text, data in a list or tuple -/
def hasStr (i j : Str) : Bool := !(Builtin.Str.occurrences j i 0 j.length 1).isEmpty
def pIn (neg : Bool) : D → D → (T → Prop) → Prop
  | .str i, .str j, Q => Q (.d (.bool (xor neg (hasStr i j))))
  | d, .list ds, Q => SeqAt.shaped d = true ∧ SeqAt.shaped (.list ds) = true ∧ Q (.d (.bool (xor neg (ds.any fun z => PyData.eqv z d))))
  | d, .tuple ds, Q => SeqAt.shaped d = true ∧ SeqAt.shaped (.tuple ds) = true ∧ Q (.d (.bool (xor neg (ds.any fun z => PyData.eqv z d))))
  | _, _, _ => False
def rInT (K : PySem.W.Frag) (neg : Bool) : R2 := fun x y H Q => ∃ d ds, Dp K H x d ∧ Dp K H y (.tuple ds) ∧ SeqAt.shaped d = true ∧ SeqAt.shaped (.tuple ds) = true ∧ Q (.bl (xor neg (ds.any fun z => PyData.eqv z d))) H
theorem op_inTup {X : Cx} (hu : X.A.units + 65 < cLine) : OpR X (compareOp .In) (rInT X.K false) := by
  intro pins s σ H x y v u Q I rx ry h
  obtain ⟨d, ds, hd, he, sd, se, q⟩ := h
  obtain ⟨as, r1⟩ := Dp.reads I d x v hd rx
  obtain ⟨bs, r2⟩ := Dp.reads I (.tuple ds) y u he ry
  refine SeqAt.in_tuple_reads r2 r1 (SeqAt.canLay_of_shaped se) (SeqAt.canLay_of_shaped sd) (PyProof.Rows.room_in_shaped sd hu) ⟨.bl _, H, I, rfl, ?_⟩
  rw [Bool.false_xor] at q
  exact q
theorem op_notInTup {X : Cx} (hu : X.A.units + 65 < cLine) : OpR X (compareOp .NotIn) (rInT X.K true) := by
  intro pins s σ H x y v u Q I rx ry h
  obtain ⟨d, ds, hd, he, sd, se, q⟩ := h
  obtain ⟨as, r1⟩ := Dp.reads I d x v hd rx
  obtain ⟨bs, r2⟩ := Dp.reads I (.tuple ds) y u he ry
  refine SeqAt.notIn_tuple_reads r2 r1 (SeqAt.canLay_of_shaped se) (SeqAt.canLay_of_shaped sd) (PyProof.Rows.room_in_shaped sd hu) ⟨.bl _, H, I, rfl, ?_⟩
  rw [Bool.true_xor] at q
  exact q
def rInS (neg : Bool) : R2 := fun x y H Q => ∃ i j, x = .str i ∧ y = .str j ∧ Q (.bl (xor neg (hasStr i j))) H
theorem op_inS {X : Cx} : OpR X (compareOp .In) (rInS false) := by
  intro pins s σ H x y v u Q I rx ry h
  obtain ⟨i, j, rfl, rfl, q⟩ := h
  rw [Bool.false_xor] at q
  exact op_in_str pins s σ H _ _ v u Q I rx ry ⟨i, j, rfl, rfl, q⟩
theorem op_niS {X : Cx} : OpR X (compareOp .NotIn) (rInS true) := by
  intro pins s σ H x y v u Q I rx ry h
  obtain ⟨i, j, rfl, rfl, q⟩ := h
  rw [Bool.true_xor] at q
  exact op_notin_str pins s σ H _ _ v u Q I rx ry ⟨i, j, rfl, rfl, q⟩
def rInP (K : PySem.W.Frag) : R2 := fun x y H Q => rInS false x y H Q ∨ rInD K x y H Q ∨ rInT K false x y H Q
def rNiP (K : PySem.W.Frag) : R2 := fun x y H Q => rInS true x y H Q ∨ rNotInD K x y H Q ∨ rInT K true x y H Q
theorem op_inP {X : Cx} (hu : X.A.units + 65 < cLine) : OpR X (compareOp .In) (rInP X.K) := op_inS.or ((op_inD hu).or (op_inTup hu))
theorem op_niP {X : Cx} (hu : X.A.units + 65 < cLine) : OpR X (compareOp .NotIn) (rNiP X.K) := op_niS.or ((op_notInD hu).or (op_notInTup hu))
theorem o_in : OpD K B (rInP K) (pIn false) := by
  intro G F H σ ρ P Q d1 d2 v1 v2 k r1 r2 h q
  unfold pIn at h
  split at h
  · exact .inl ⟨_, _, r1.str, r2.str, q _ _ _ _ h (k.d (.bl _)) (Same.refl F)⟩
  · refine .inr (.inl ⟨_, _, r1.dpS k.2.f h.1, r2.dpS k.2.f h.2.1, h.1, h.2.1, ?_⟩)
    have h3 := h.2.2
    rw [Bool.false_xor] at h3
    exact q _ _ _ _ h3 (k.d (.bl _)) (Same.refl F)
  · exact .inr (.inr ⟨_, _, r1.dpS k.2.f h.1, r2.dpS k.2.f h.2.1, h.1, h.2.1, q _ _ _ _ h.2.2 (k.d (.bl _)) (Same.refl F)⟩)
  · exact h.elim
theorem o_ni : OpD K B (rNiP K) (pIn true) := by
  intro G F H σ ρ P Q d1 d2 v1 v2 k r1 r2 h q
  unfold pIn at h
  split at h
  · exact .inl ⟨_, _, r1.str, r2.str, q _ _ _ _ h (k.d (.bl _)) (Same.refl F)⟩
  · refine .inr (.inl ⟨_, _, r1.dpS k.2.f h.1, r2.dpS k.2.f h.2.1, h.1, h.2.1, ?_⟩)
    have h3 := h.2.2
    rw [Bool.true_xor] at h3
    exact q _ _ _ _ h3 (k.d (.bl _)) (Same.refl F)
  · exact .inr (.inr ⟨_, _, r1.dpS k.2.f h.1, r2.dpS k.2.f h.2.1, h.1, h.2.1, q _ _ _ _ h.2.2 (k.d (.bl _)) (Same.refl F)⟩)
  · exact h.elim
/-- is None -/
def pIsN (neg : Bool) : D → D → (T → Prop) → Prop
  | .none, .none, Q => Q (.d (.bool (!neg)))
  | _, .none, Q => Q (.d (.bool neg))
  | _, _, _ => False
theorem rq_non {F H : Hp} {v : V} {d : D} (h : Rq K F H v d) : (decide (v = .non)) = (match d with | .none => true | _ => false) := by
  rcases h with h | ⟨_, _, _, rfl, rfl, _⟩ | ⟨_, _, _, rfl, rfl, _⟩
  · cases h <;> simp
  · simp
  · simp
theorem o_isN : OpD K B (fun x y H Q => y = .non ∧ Q (.bl (decide (x = .non))) H) (pIsN false) := by
  intro G F H σ ρ P Q d1 d2 v1 v2 k r1 r2 h q
  unfold pIsN at h
  have e := rq_non r1
  split at h
  · exact ⟨r2.non, by rw [e]; exact q _ _ _ _ h (k.d (.bl _)) (Same.refl F)⟩
  · rename_i hne
    refine ⟨r2.non, ?_⟩
    rw [e]
    cases d1 <;> first | exact (hne rfl).elim | exact q _ _ _ _ h (k.d (.bl _)) (Same.refl F)
  · exact h.elim
theorem o_notN : OpD K B (fun x y H Q => y = .non ∧ Q (.bl (!decide (x = .non))) H) (pIsN true) := by
  intro G F H σ ρ P Q d1 d2 v1 v2 k r1 r2 h q
  unfold pIsN at h
  have e := rq_non r1
  split at h
  · exact ⟨r2.non, by rw [e]; exact q _ _ _ _ h (k.d (.bl _)) (Same.refl F)⟩
  · rename_i hne
    refine ⟨r2.non, ?_⟩
    rw [e]
    cases d1 <;> first | exact (hne rfl).elim | exact q _ _ _ _ h (k.d (.bl _)) (Same.refl F)
  · exact h.elim

/-! ### subscripts -/
def sg (l : List Nat) : Str := ⟨l.toArray⟩
def pIx : D → D → (T → Prop) → Prop
  | .list ds, .int i, Q => match atI ds i with
    | some d => Q (.d d)
    | none => False
  | .tuple ds, .int i, Q => match atI ds i with
    | some d => Q (.d d)
    | none => False
  | .str z, .int i, Q => z.length ≤ sizeLine ∧ match atI z.cps.toList i with
    | some c => Q (.d (.str (sg [c])))
    | none => False
  | _, _, _ => False
theorem RpAll.at {F : Hp} {vs : List V} {ds : List D} {i : Int} {d : D} (r : RpAll K F vs ds) (h : atI ds i = some d) : ∃ v, atI vs i = some v ∧ Rp K F v d := by
  unfold atI at h ⊢
  rw [r.length]
  cases e : ixN ds.length i with
  | none => rw [e] at h; cases h
  | some j =>
    rw [e] at h
    exact r.get h
theorem o_ix : OpD K B (rIx K) pIx := by
  intro G F H σ ρ P Q d1 d2 v1 v2 k r1 r2 h q
  unfold pIx at h
  split at h
  · obtain ⟨a, vs, rfl, s1, t1⟩ := r1.lst k.2.f
    split at h
    · rename_i d e
      obtain ⟨v, e', r⟩ := t1.at e
      exact .inl ⟨a, vs, _, v, rfl, r2.int, .inl (.inl s1), e', q _ _ _ _ h (k.d r) (Same.refl F)⟩
    · exact h.elim
  · obtain ⟨a, vs, rfl, s1, t1⟩ := r1.tup
    split at h
    · rename_i d e
      obtain ⟨v, e', r⟩ := t1.at e
      exact .inr (.inl ⟨a, vs, _, v, rfl, r2.int, same_t k.2.f s1, e', q _ _ _ _ h (k.d r) (Same.refl F)⟩)
    · exact h.elim
  · obtain ⟨hz, h⟩ := h
    split at h
    · rename_i c e
      exact .inr (.inr ⟨_, _, c, r1.str, r2.int, hz, e, q _ _ _ _ h (k.d (.str _)) (Same.refl F)⟩)
    · exact h.elim
  · exact h.elim
theorem atI_cast {α : Type} (xs : List α) (i : Nat) : atI xs ((i : Nat) : Int) = xs[i]? := by
  unfold atI ixN
  by_cases h : i < xs.length
  · rw [if_pos (by omega), if_pos (by omega)]
    rfl
  · rw [if_pos (by omega), if_neg (by omega)]
    exact (List.getElem?_eq_none (by omega)).symm
theorem atI_0 {α : Type} (xs : List α) : atI xs 0 = xs[0]? := atI_cast xs 0
theorem atI_1 {α : Type} (xs : List α) : atI xs 1 = xs[1]? := atI_cast xs 1
theorem atI_2 {α : Type} (xs : List α) : atI xs 2 = xs[2]? := atI_cast xs 2
theorem atI_3 {α : Type} (xs : List α) : atI xs 3 = xs[3]? := atI_cast xs 3
variable {X : Cx} {a b : Expr} {ta tb : QE} {pos : Pos}
theorem q_ix (ha : PE X a (lift X.K B ta)) (hb : PE X b (lift X.K B tb)) (hs : PlainIx b := by exact fun _ _ => rfl) : PE X (.Subscript a b pos) (lift X.K B (qOp pIx ta tb)) :=
  weakE (pe_ix ix_seq ha hb hs) fun _ _ _ => lift_op o_ix
/-- slices -/
def cutD (ds : List D) (lo hi : Option Int) : List D := (ds.drop (HT.sIx ds.length 0 lo)).take (HT.sIx ds.length ds.length hi - HT.sIx ds.length 0 lo)
theorem RpAll.cut {F : Hp} {vs : List V} {ds : List D} (r : RpAll K F vs ds) (lo hi : Option Int) : RpAll K F (cutV vs lo hi) (cutD ds lo hi) := by
  unfold cutV cutD
  rw [r.length]
  exact (r.drop _).take _
def pSl : D → Option Int → Option Int → (T → Prop) → Prop
  | .list ds, lo, hi, Q => Q (.l (cutD ds lo hi))
  | .tuple ds, lo, hi, Q => Q (.d (.tuple (cutD ds lo hi)))
  | .str z, lo, hi, Q => z.length ≤ sizeLine ∧ Q (.d (.str (cutS z lo hi)))
  | _, _, _, _ => False
def rSlP (K : PySem.W.Frag) : V → Option Int → Option Int → Hp → VK → Prop := fun x lo hi H Q => rSlL K x lo hi H Q ∨ rSlA K x lo hi H Q ∨ rSlS x lo hi H Q
theorem sl_P : SlR X (rSlP X.K) := sl_list.or (sl_tupA.or sl_str)
abbrev QO := Env → (Option Int → Env → Prop) → Prop
def liftO (K : PySem.W.Frag) (B : Box) (t : QO) : TO := fun σ H Q => ∃ G F ρ P, St0 K B G F H σ ρ ∧ t ρ P ∧ ∀ o ρ' H' F', P o ρ' → St0 K B G F' H' σ ρ' → Same F F' → Q o H'
def qNoPart (ρ : Env) (Q : Option Int → Env → Prop) : Prop := Q none ρ
def qPart (t : QE) (ρ : Env) (Q : Option Int → Env → Prop) : Prop := t ρ fun r ρ1 => match r with
  | .d (.int i) => Q (some i) ρ1
  | _ => False
theorem weakO {e : Option Expr} {t t' : TO} (h : PO X e t) (k : ∀ σ H Q, t' σ H Q → t σ H Q) : PO X e t' := by
  refine ⟨fun pins s σ H Q I q => ?_⟩
  exact h.run pins s σ H Q I (k σ H Q q)
theorem po_no : PO X none (liftO X.K B qNoPart) := weakO po_none fun σ H Q ⟨G, F, ρ, P, k, h, q⟩ => q none ρ H F h k (Same.refl F)
theorem po_at (ha : PE X a (lift X.K B ta)) : PO X (some a) (liftO X.K B (qPart ta)) := weakO (po_some ha) fun σ H Q ⟨G, F, ρ, P, k, h, q⟩ => ⟨G, F, ρ, _, k, h, fun r ρ' v H' F' p fl e => by
  split at p
  · have r := fl_d fl
    cases r
    exact ⟨_, rfl, q _ _ _ _ p fl.pop e⟩
  · exact p.elim⟩
def qSl (ta : QE) (tl th : QO) (ρ : Env) (Q : T → Env → Prop) : Prop := ta ρ fun r ρ1 => tl ρ1 fun lo ρ2 => th ρ2 fun hi ρ3 => match r.w.dat ρ3 with
  | some d => pSl d lo hi fun r => Q r ρ3
  | none => False
theorem whole_cut {ds : List D} {lo hi : Option Int} (h : HT.sIx ds.length 0 lo = 0 ∧ HT.sIx ds.length ds.length hi = ds.length) : cutD ds lo hi = ds := by
  unfold cutD
  rw [h.1, h.2]
  simp
theorem o_sl {F G H : Hp} {σ : St} {ρ : Env} {d : D} {v : V} {lo hi : Option Int} {P : T → Prop} {Q : VK} (k : St0 K B G F H σ ρ) (r1 : Rq K F H v d) (h : pSl d lo hi P)
    (q : ∀ r v H' F', P r → Fl K B G F' H' σ ρ v r → Same F F' → Q v H') : rSlP K v lo hi H Q := by
  unfold pSl at h
  split at h
  · obtain ⟨a, vs, rfl, s1, t1⟩ := r1.lst k.2.f
    exact .inl ⟨a, vs, rfl, .inl (.inl s1), fun p hp => q _ _ _ _ h (k.newL hp (t1.cut _ _)) (Same.refl F)⟩
  · obtain ⟨a, vs, rfl, s1, t1⟩ := r1.tup
    refine .inr (.inl ⟨a, vs, rfl, same_t k.2.f s1, fun e => ?_, fun e p hp => ?_⟩)
    · rw [t1.length] at e
      rw [whole_cut e] at h
      exact q _ _ _ _ h (k.d (.tup s1 t1)) (Same.refl F)
    · obtain ⟨fl, e⟩ := k.newT hp (t1.cut lo hi)
      exact q _ _ _ _ h fl e
  · exact .inr (.inr ⟨_, r1.str, h.1, q _ _ _ _ h.2 (k.d (.str _)) (Same.refl F)⟩)
  · exact h.elim
theorem q_sl {lo hi : Option Expr} {p2 : Pos} {tl th : QO} (ha : PE X a (lift X.K B ta)) (hl : PO X lo (liftO X.K B tl)) (hh : PO X hi (liftO X.K B th)) : PE X (.Subscript a (.Slice lo hi none p2) pos) (lift X.K B (qSl ta tl th)) :=
  weakE (pe_slice sl_P ha hl hh) fun σ H Q ⟨G, F, ρ, P, k, h, q⟩ => lift_use k h fun r1 ρ1 v1 H1 F1 h1 k1 w1 e1 =>
    ⟨G, F1, ρ1, _, k1, h1, fun o ρ2 H2 F2 h2 k2 e2 => ⟨G, F2, ρ2, _, k2, h2, fun o' ρ3 H3 F3 h3 k3 e3 => by
      split at h3
      · rename_i d g
        exact o_sl k3 (k3.read ((w1.mono e2).mono e3) g) h3 fun r v H' F' p' fl e => q r ρ3 v H' F' p' fl (((e1.trans e2).trans e3).trans e)
      · exact h3.elim⟩⟩
/-- -a -/
def qNeg (ta : QE) (ρ : Env) (Q : T → Env → Prop) : Prop := ta ρ fun r ρ1 => match r with
  | .d (.int i) => Q (.d (.int (-i))) ρ1
  | _ => False
theorem q_neg (ha : PE X a (lift X.K B ta)) : PE X (.UnaryOp .USub a pos) (lift X.K B (qNeg ta)) := weakE (pe_un un_neg ha) fun σ H Q ⟨G, F, ρ, P, k, h, q⟩ => ⟨G, F, ρ, _, k, h, fun r ρ' v H' F' p fl e => by
  split at p
  · have r := fl_d fl
    cases r
    exact ⟨_, rfl, q _ _ _ _ _ p (fl.pop.d (.int _)) e⟩
  · exact p.elim⟩
end
end PL

set_option Elab.async false
set_option linter.all false
set_option maxRecDepth 100000
/-! PL, part 4: statements, targets, loops, comprehensions. -/
namespace PL
open PySem PySem.Spec L2

structure PEnds where
  nx : Env → Prop
  rt : T → Env → Prop
  bk : Env → Prop := fun _ => False
  ct : Env → Prop := fun _ => False
abbrev QS := PEnds → Env → Prop
structure EndsOk (K : PySem.W.Frag) (B : Box) (G F : Hp) (DP : PEnds) (D : Ends) : Prop where
  nx : ∀ σ' H' ρ' F', DP.nx ρ' → St0 K B G F' H' σ' ρ' → Same F F' → D.nx σ' H'
  rt : ∀ r v σ' H' ρ' F', DP.rt r ρ' → Fl K B G F' H' σ' ρ' v r → Same F F' → D.rt v H'
  bk : ∀ σ' H' ρ' F', DP.bk ρ' → St0 K B G F' H' σ' ρ' → Same F F' → D.bk σ' H'
  ct : ∀ σ' H' ρ' F', DP.ct ρ' → St0 K B G F' H' σ' ρ' → Same F F' → D.ct σ' H'
theorem EndsOk.mono {K : PySem.W.Frag} {B : Box} {G F F1 : Hp} {DP : PEnds} {D : Ends} (h : EndsOk K B G F DP D) (e : Same F F1) : EndsOk K B G F1 DP D :=
  ⟨fun σ' H' ρ' F' p k s => h.nx σ' H' ρ' F' p k (e.trans s), fun r v σ' H' ρ' F' p k s => h.rt r v σ' H' ρ' F' p k (e.trans s), fun σ' H' ρ' F' p k s => h.bk σ' H' ρ' F' p k (e.trans s), fun σ' H' ρ' F' p k s => h.ct σ' H' ρ' F' p k (e.trans s)⟩
def liftS (K : PySem.W.Frag) (B : Box) (t : QS) : TS := fun D σ H => ∃ G F ρ DP, St0 K B G F H σ ρ ∧ t DP ρ ∧ EndsOk K B G F DP D
theorem weakS {X : Cx} {e : Stmt} {t t' : TS} (h : PS X e t) (k : ∀ D σ H, t' D σ H → t D σ H) : PS X e t' := ⟨fun pins s σ H D I q => h.run pins s σ H D I (k D σ H q)⟩
theorem weakSs {X : Cx} {e : List Stmt} {t t' : TS} (h : PSs X e t) (k : ∀ D σ H, t' D σ H → t D σ H) : PSs X e t' := ⟨fun pins s σ H D I q => h.run pins s σ H D I (k D σ H q)⟩
section
variable {X : Cx} {B : Box} {st : Stmt} {rest : List Stmt} {t u : QS} {e : Expr} {te : QE} {pos : Pos}
def sNext (DP : PEnds) (ρ : Env) : Prop := DP.nx ρ
def sSeq (t u : QS) (DP : PEnds) (ρ : Env) : Prop := t { DP with nx := u DP } ρ
theorem s_nil : PSs X [] (liftS X.K B sNext) := weakSs pss_nil fun D σ H ⟨G, F, ρ, DP, k, h, en⟩ => en.nx _ _ _ _ h k (Same.refl F)
theorem s_cons (h1 : PS X st (liftS X.K B t)) (h2 : PSs X rest (liftS X.K B u)) : PSs X (st :: rest) (liftS X.K B (sSeq t u)) :=
  weakSs (pss_cons h1 h2) fun D σ H ⟨G, F, ρ, DP, k, h, en⟩ => ⟨G, F, ρ, { DP with nx := u DP }, k, h, fun σ' H' ρ' F' p k' s => ⟨G, F', ρ', DP, k', p, en.mono s⟩, en.rt, en.bk, en.ct⟩
theorem s_one (h1 : PS X st (liftS X.K B t)) : PSs X [st] (liftS X.K B t) := pss_one h1
theorem s_pass : PS X (.Pass pos) (liftS X.K B sNext) := weakS ps_pass fun D σ H ⟨G, F, ρ, DP, k, h, en⟩ => en.nx _ _ _ _ h k (Same.refl F)
def sBrk (DP : PEnds) (ρ : Env) : Prop := DP.bk ρ
def sCont (DP : PEnds) (ρ : Env) : Prop := DP.ct ρ
theorem s_break : PS X (.Break pos) (liftS X.K B sBrk) := weakS ps_break fun D σ H ⟨G, F, ρ, DP, k, h, en⟩ => en.bk _ _ _ _ h k (Same.refl F)
theorem s_continue : PS X (.Continue pos) (liftS X.K B sCont) := weakS ps_continue fun D σ H ⟨G, F, ρ, DP, k, h, en⟩ => en.ct _ _ _ _ h k (Same.refl F)
def sDrop (te : QE) (DP : PEnds) (ρ : Env) : Prop := te ρ fun _ ρ' => DP.nx ρ'
theorem s_expr (he : PE X e (lift X.K B te)) (hs : swapsWith e none pos.line X.env = pure false := by rfl) : PS X (.Expr e pos) (liftS X.K B (sDrop te)) :=
  weakS (ps_expr he hs) fun D σ H ⟨G, F, ρ, DP, k, h, en⟩ => ⟨G, F, ρ, _, k, h, fun r ρ' v H' F' p fl e => en.nx _ _ _ _ p fl.pop e⟩
def sRet (te : QE) (DP : PEnds) (ρ : Env) : Prop := te ρ DP.rt
theorem s_ret (he : PE X e (lift X.K B te)) : PS X (.Return (some e) pos) (liftS X.K B (sRet te)) :=
  weakS (ps_ret he) fun D σ H ⟨G, F, ρ, DP, k, h, en⟩ => ⟨G, F, ρ, _, k, h, fun r ρ' v H' F' p fl e => en.rt _ _ _ _ _ _ p fl e⟩
def sRetN (DP : PEnds) (ρ : Env) : Prop := DP.rt (.d .none) ρ
theorem s_retN : PS X (.Return none pos) (liftS X.K B sRetN) := weakS ps_retN fun D σ H ⟨G, F, ρ, DP, k, h, en⟩ => en.rt _ _ _ _ _ _ h (k.d .non) (Same.refl F)
def sIf (c : QT) (t u : QS) (DP : PEnds) (ρ : Env) : Prop := c ρ fun b ρ1 => if b = true then t DP ρ1 else u DP ρ1
theorem s_if {c : Expr} {a b : List Stmt} {tc : QT} (hc : PT X c (liftT X.K B tc)) (ha : PSs X a (liftS X.K B t)) (hb : PSs X b (liftS X.K B u)) : PS X (.If c a b pos) (liftS X.K B (sIf tc t u)) :=
  weakS (ps_if hc ha hb) fun D σ H ⟨G, F, ρ, DP, k, h, en⟩ => liftT_use k h fun c ρ1 H1 F1 h1 k1 e1 => by
    cases c with
    | true => exact iteT ⟨G, F1, ρ1, DP, k1, h1, en.mono e1⟩
    | false => exact iteF ⟨G, F1, ρ1, DP, k1, h1, en.mono e1⟩
/-- code that is not come to -/
def sNever : QS := fun _ _ => False
theorem s_never : PS X st (liftS X.K B sNever) := weakS ps_never fun D σ H ⟨G, F, ρ, DP, k, h, en⟩ => h.elim
theorem ss_never {sts : List Stmt} : PSs X sts (liftS X.K B sNever) := weakSs pss_never fun D σ H ⟨G, F, ρ, DP, k, h, en⟩ => h.elim
end

/-! ### targets -/
abbrev QG := T → Env → (Env → Prop) → Prop
abbrev QGs := List D → Env → (Env → Prop) → Prop
def liftG (K : PySem.W.Frag) (B : Box) (g : QG) : TG := fun v σ H Q => ∃ G F ρ r P, Fl K B G F H σ ρ v r ∧ g r ρ P ∧ ∀ ρ' σ' H' F', P ρ' → St0 K B G F' H' σ' ρ' → Same F F' → Q σ' H'
def liftGs (K : PySem.W.Frag) (B : Box) (g : QGs) : TGs := fun vs σ H Q => ∃ G F ρ ds P, St0 K B G F H σ ρ ∧ RpAll K F vs ds ∧ g ds ρ P ∧ ∀ ρ' σ' H' F', P ρ' → St0 K B G F' H' σ' ρ' → Same F F' → Q σ' H'
theorem weakG {X : Cx} {e : Expr} {t t' : TG} (h : PG X e t) (k : ∀ v σ H Q, t' v σ H Q → t v σ H Q) : PG X e t' := ⟨fun pins s σ H v u Q I r q => h.run pins s σ H v u Q I r (k v σ H Q q)⟩
theorem weakGs {X : Cx} {e : List Expr} {t t' : TGs} (h : PGs X e t) (k : ∀ v σ H Q, t' v σ H Q → t v σ H Q) : PGs X e t' := ⟨fun pins s σ H v u Q I r q => h.run pins s σ H v u Q I r (k v σ H Q q)⟩
/-- what may be stored -/
def T.stored : T → Prop
  | .al _ => False
  | .un => False
  | _ => True
section
variable {X : Cx} {B : Box} {pos : Pos} {e : Expr} {te : QE}
def gN (i : Nat) (r : T) (ρ : Env) (Q : Env → Prop) : Prop := (i < ρ.length ∧ r.stored) ∧ Q (ρ.set i r)
theorem Fl.set {K : PySem.W.Frag} {G F H : Hp} {σ : St} {ρ : Env} {v : V} {r : T} {i : Nat} (k : Fl K B G F H σ ρ v r) (hi : i < ρ.length) (hs : r.stored) : St0 K B G F H (σ.set i (some v)) (ρ.set i r) := by
  have hl : σ.length = ρ.length := by have := k.ok.len; simpa using this
  have st : r.still := by cases r <;> first | exact trivial | exact hs.elim
  exact ⟨mem_set_still k.still st, k.ok.set k.still st (by omega)⟩
theorem g_name {i : Nat} {x : Str} (hN : X.N.Nodup) (hi : X.N[i]? = some x := by rfl) (hx : Loc X.env.scope x := by first | exact Or.inl rfl | exact Or.inr rfl) (hf : X.fn x = true ∨ X.env.scope.names.lookup x = some .local := by first | exact .inl rfl | exact .inr rfl) : PG X (.Name x pos) (liftG X.K B (gN i)) :=
  weakG (pg_name hN hi hx hf) fun v σ H Q ⟨G, F, ρ, r, P, k, ⟨⟨h1, h2⟩, h⟩, q⟩ => q _ _ _ _ h (k.set h1 h2) (Same.refl F)
def gNilP (ds : List D) (ρ : Env) (Q : Env → Prop) : Prop := ds = [] ∧ Q ρ
def gConsP (g : QG) (r : QGs) (ds : List D) (ρ : Env) (Q : Env → Prop) : Prop := match ds with
  | d :: es => g (.d d) ρ fun ρ' => r es ρ' Q
  | [] => False
theorem gs_nil : PGs X [] (liftGs X.K B gNilP) := weakGs pgs_nil fun vs σ H Q ⟨G, F, ρ, ds, P, k, r, ⟨e, h⟩, q⟩ => by
  subst e
  cases r
  exact ⟨rfl, q _ _ _ _ h k (Same.refl F)⟩
variable {es : List Expr} {g : QG} {gs : QGs}
theorem gs_cons (h1 : PG X e (liftG X.K B g)) (h2 : PGs X es (liftGs X.K B gs)) (hs : (assignEach (e :: es) X.env).map (·.2) = assign e X.env :: (assignEach es X.env).map (·.2) := by rfl) : PGs X (e :: es) (liftGs X.K B (gConsP g gs)) :=
  weakGs (pgs_cons h1 h2 hs) fun vs σ H Q ⟨G, F, ρ, ds, P, k, r, h, q⟩ => by
    cases r with
    | nil => exact h.elim
    | cons r1 rr =>
      exact ⟨_, _, rfl, G, F, ρ, .d _, _, k.d r1, h, fun ρ' σ' H' F' p k' s => ⟨G, F', ρ', _, P, k', rr.mono s, p, fun ρ2 σ2 H2 F2 p2 k2 s2 => q ρ2 σ2 H2 F2 p2 k2 (s.trans s2)⟩⟩
/-- a tuple's items to targets -/
def gT (n : Nat) (gs : QGs) (r : T) (ρ : Env) (Q : Env → Prop) : Prop := match r with
  | .d (.tuple ds) => ds.length = n ∧ gs ds ρ Q
  | _ => False
theorem g_tup {k0 : Nat} {n : Nat} (hc : X.calm = true) (h : PGs X es (liftGs X.K B gs)) (hn : (assignEach es X.env).length = n := by rfl) (hst : (assignEach es X.env).findIdx? (·.1) = none := by rfl) : PG X (.Tuple es k0 pos) (liftG X.K B (gT n gs)) :=
  weakG (pg_tup hc h hn hst) fun v σ H Q ⟨G, F, ρ, r, P, k, h, q⟩ => by
    unfold gT at h
    split at h
    · have rp := fl_d k
      cases rp with
      | tup s r => exact ⟨_, _, rfl, same_t k.pop.2.f s, by rw [r.length]; exact h.1, G, F, ρ, _, P, k.pop, r, h.2, q⟩
    · exact h.elim
/-- target = value -/
def sAsg (te : QE) (g : QG) (DP : PEnds) (ρ : Env) : Prop := te ρ fun r ρ' => g r ρ' DP.nx
theorem lift_asg {K : PySem.W.Frag} {g : QG} {D : Ends} {σ : St} {H : Hp} (h : liftS K B (sAsg te g) D σ H) : tAsg (lift K B te) (liftG K B g) D σ H := by
  obtain ⟨G, F, ρ, DP, k, h, en⟩ := h
  exact ⟨G, F, ρ, _, k, h, fun r ρ' v H' F' p fl e => ⟨G, F', ρ', r, DP.nx, fl, p, fun ρ2 σ2 H2 F2 p2 k2 s2 => en.nx _ _ _ _ p2 k2 (e.trans s2)⟩⟩
theorem s_asg {tg : Expr} (he : PE X e (lift X.K B te)) (hg : PG X tg (liftG X.K B g)) (hs : swapsWithSole [tg] e pos.line X.env = pure false := by rfl) (hw : swappedStores [tg] e X.env = pure none := by rfl)
    (h1 : (assignEach [tg] X.env).map (·.2) = [assign tg X.env] := by rfl) : PS X (.Assign [tg] e pos) (liftS X.K B (sAsg te g)) := weakS (ps_asg he hg hs hw h1) fun _ _ _ => lift_asg
/-- name = value -/
theorem lift_set {K : PySem.W.Frag} {i : Nat} {D : Ends} {σ : St} {H : Hp} (h : liftS K B (sAsg te (gN i)) D σ H) : tAsg (lift K B te) (gName i) D σ H := by
  obtain ⟨G, F, ρ, DP, k, h, en⟩ := h
  exact ⟨G, F, ρ, _, k, h, fun r ρ' v H' F' ⟨⟨h1, h2⟩, p⟩ fl e => en.nx _ _ _ _ p (fl.set h1 h2) e⟩
theorem s_set {i : Nat} {x : Str} {pos' : Pos} (hN : X.N.Nodup) (he : PE X e (lift X.K B te)) (hi : X.N[i]? = some x := by rfl) (hx : Loc X.env.scope x := by first | exact Or.inl rfl | exact Or.inr rfl) (hs : swapsWith e (some (.Name x pos')) pos.line X.env = pure false := by rfl) (hf : X.fn x = true ∨ X.env.scope.names.lookup x = some .local := by first | exact .inl rfl | exact .inr rfl) :
    PS X (.Assign [.Name x pos'] e pos) (liftS X.K B (sAsg te (gN i))) := weakS (ps_set hN hi hx he hs hf) fun _ _ _ => lift_set
end

/-! ### while -/
section
variable {X : Cx} {B : Box} {pos : Pos}
def sWhile (c : QT) (tb : QS) (DP : PEnds) (ρ : Env) : Prop := ∃ W : Nat → Env → Prop, (∃ m, W m ρ) ∧ ∀ m ρ, W m ρ → c ρ fun b ρ1 => if b = true then tb { DP with nx := fun ρ' => ∃ m', m' < m ∧ W m' ρ', ct := fun ρ' => ∃ m', m' < m ∧ W m' ρ', bk := DP.nx } ρ1 else DP.nx ρ1
theorem s_while {c : Expr} {body : List Stmt} {tc : QT} {tb : QS} (hp : PassesOwn (model X.prog X.w) X.A X.env X.xe) (hc : PT X c (liftT X.K B tc)) (hb : PSs X body (liftS X.K B tb)) : PS X (.While c body [] pos) (liftS X.K B (sWhile tc tb)) :=
  weakS (ps_while hp hc hb) fun D σ H ⟨G, F, ρ, DP, k, ⟨W, ⟨m0, w0⟩, turn⟩, en⟩ => by
    refine ⟨fun m σ H => ∃ F' ρ', St0 X.K B G F' H σ ρ' ∧ Same F F' ∧ W m ρ', ⟨m0, F, ρ, k, Same.refl F, w0⟩, ?_⟩
    rintro m σ1 H1 ⟨F1, ρ1, k1, s1, w1⟩
    refine liftT_use k1 (turn m ρ1 w1) fun b ρ2 H2 F2 h2 k2 s2 => ?_
    cases b with
    | true =>
      simp only [if_true] at h2 ⊢
      refine ⟨fun σ' H' => ∃ m', m' < m ∧ ∃ F' ρ', St0 X.K B G F' H' σ' ρ' ∧ Same F F' ∧ W m' ρ', fun σ' H' z => z, G, F2, ρ2, _, k2, h2, ?_⟩
      have s12 := s1.trans s2
      exact ⟨fun σ' H' ρ' F' ⟨m', hm, w'⟩ k' s => ⟨m', hm, F', ρ', k', s12.trans s, w'⟩, fun r v σ' H' ρ' F' p fl s => en.rt r v σ' H' ρ' F' p fl (s12.trans s), fun σ' H' ρ' F' p k' s => en.nx σ' H' ρ' F' p k' (s12.trans s), fun σ' H' ρ' F' ⟨m', hm, w'⟩ k' s => ⟨m', hm, F', ρ', k', s12.trans s, w'⟩⟩
    | false =>
      simp only [Bool.false_eq_true, if_false] at h2 ⊢
      exact en.nx _ _ _ _ h2 k2 (s1.trans s2)

end

/-! ### what a for walks -/
/-- an item as it comes: frozen data, a new tuple, or a new tuple with a new tuple within -/
def Yd (K : PySem.W.Frag) (F H : Hp) (x : V) (d : D) (H' : Hp) : Prop := (H' = H ∧ Rp K F x d) ∨ (∃ p xs es, H p = none ∧ x = .ref p ∧ d = .tuple es ∧ H' = upd H p (.tup xs) ∧ RpAll K F xs es) ∨
  ∃ p q v c xs es, H p = none ∧ H q = none ∧ p ≠ q ∧ x = .ref q ∧ d = .tuple [c, .tuple es] ∧ H' = upd (upd H p (.tup xs)) q (.tup [v, .ref p]) ∧ RpAll K F xs es ∧ Rp K F v c
/-- the items of a walk, as data -/
structure Wk (K : PySem.W.Frag) (J : It) (F : Hp) (ds : List D) : Prop where
  goes : ∀ i H, i < ds.length → Same F H → J.go i H
  stops : ∀ H, Same F H → J.stop ds.length H
  yields : ∀ i H x H', i < ds.length → Same F H → J.yld i H x H' → ∃ d, ds[i]? = some d ∧ Yd K F H x d H'
abbrev QI := Env → (List D → Env → Prop) → Prop
def liftI (K : PySem.W.Frag) (B : Box) (t : QI) : TI := fun σ H R => ∃ G F ρ P, St0 K B G F H σ ρ ∧ t ρ P ∧ ∀ ds ρ' H' F' J, P ds ρ' → St0 K B G F' H' σ ρ' → Same F F' → Wk K J F' ds → R J H'
theorem weakI {X : Cx} {tg e : Expr} {t t' : TI} (h : PI X tg e t) (k : ∀ σ H R, t' σ H R → t σ H R) : PI X tg e t' := ⟨fun pins s σ H R I q => h.run pins s σ H R I (k σ H R q)⟩
section
variable {X : Cx} {B : Box} {pos : Pos} {e tg : Expr} {te : QE} {ta : QA}
theorem wk_list {K : PySem.W.Frag} {F : Hp} {a : Addr} {xs : List V} {ds : List D} (h : F a = some (.lst xs)) (r : RpAll K F xs ds) : Wk K (Itl K a) F ds := by
  have w := walk_list (K := K) (a := a) (xs := xs)
  have hl := r.length
  refine ⟨fun i H hi s => w.goes i H (by omega) (.inl (.inl (s _ _ h))), fun H s => by rw [← hl]; exact w.stops H (.inl (.inl (s _ _ h))), fun i H x H' hi s y => ?_⟩
  obtain ⟨e, y⟩ := w.yields i H x H' (by omega) (.inl (.inl (s _ _ h))) y
  obtain ⟨d, hd, rp⟩ := r.getV y
  exact ⟨d, hd, .inl ⟨e, rp⟩⟩
theorem wk_tup {K : PySem.W.Frag} {F : Hp} {a : Addr} {xs : List V} {ds : List D} (h : F a = some (.tup xs)) (r : RpAll K F xs ds) : Wk K (Itt K a) F ds := by
  have w := walk_tup (K := K) (a := a) (xs := xs)
  have hl := r.length
  refine ⟨fun i H hi s => w.goes i H (by omega) (same_t s h), fun H s => by rw [← hl]; exact w.stops H (same_t s h), fun i H x H' hi s y => ?_⟩
  obtain ⟨e, y⟩ := w.yields i H x H' (by omega) (same_t s h) y
  obtain ⟨d, hd, rp⟩ := r.getV y
  exact ⟨d, hd, .inl ⟨e, rp⟩⟩
/-- the ints of a range -/
def rangeD (lo : Int) (n : Nat) : List D := (List.range n).map fun i => .int (lo + (i : Nat))
theorem rangeD_len (lo : Int) (n : Nat) : (rangeD lo n).length = n := by simp [rangeD]
theorem rangeD_get {lo : Int} {n i : Nat} (h : i < n) : (rangeD lo n)[i]? = some (.int (lo + (i : Nat))) := by simp [rangeD, h]
theorem wk_range {K : PySem.W.Frag} {F : Hp} {lo : Int} {n : Nat} : Wk K (Itr lo n) F (rangeD lo n) := by
  have w := walk_range (lo := lo) (n := n)
  refine ⟨fun i H hi s => w.goes i H (by simpa [rangeD] using hi) trivial, fun H s => by rw [rangeD_len]; exact w.stops H trivial, fun i H x H' hi s y => ?_⟩
  rw [rangeD_len] at hi
  obtain ⟨e, rfl⟩ := w.yields i H x H' hi trivial y
  exact ⟨_, rangeD_get hi, .inl ⟨e, .int _⟩⟩
def signsD (z : Str) : List D := z.cps.toList.map fun c => .str ⟨#[c]⟩
theorem wk_str {K : PySem.W.Frag} {F : Hp} {z : Str} : Wk K (Its z) F (signsD z) := by
  have w := walk_str (z := z)
  have hl : (signsD z).length = z.cps.size := by simp [signsD]
  refine ⟨fun i H hi s => w.goes i H (by omega) trivial, fun H s => by rw [hl]; exact w.stops H trivial, fun i H x H' hi s y => ?_⟩
  obtain ⟨e, c, hc, rfl⟩ := w.yields i H x H' (by omega) trivial y
  exact ⟨.str ⟨#[c]⟩, by simp [signsD, hc], .inl ⟨e, .str _⟩⟩
/-- over a list -/
def iL (te : QE) (ρ : Env) (Q : List D → Env → Prop) : Prop := te ρ fun r ρ' => match r with
  | .d (.list ds) => Q ds ρ'
  | .l ds => Q ds ρ'
  | _ => False
def iT (te : QE) (ρ : Env) (Q : List D → Env → Prop) : Prop := te ρ fun r ρ' => match r with
  | .d (.tuple ds) => Q ds ρ'
  | _ => False
def iS (te : QE) (ρ : Env) (Q : List D → Env → Prop) : Prop := te ρ fun r ρ' => match r with
  | .d (.str z) => Q (signsD z) ρ'
  | _ => False
theorem i_list (he : PE X e (lift X.K B te)) : PI X tg e (liftI X.K B (iL te)) := weakI (pi_list he) fun σ H R ⟨G, F, ρ, P, k, h, q⟩ => lift_use k h fun r ρ' v H' F' p k' w e => by
  split at p
  · cases w with
    | lst h r => exact ⟨_, rfl, ⟨_, .inl (.inl (k'.2.f _ _ h))⟩, q _ _ _ _ _ p k' e (wk_list h r)⟩
  · cases w with
    | lst h r => exact ⟨_, rfl, ⟨_, .inl (.inl (k'.2.f _ _ h))⟩, q _ _ _ _ _ p k' e (wk_list h r)⟩
  · exact p.elim
theorem i_tup (he : PE X e (lift X.K B te)) : PI X tg e (liftI X.K B (iT te)) := weakI (pi_tup he) fun σ H R ⟨G, F, ρ, P, k, h, q⟩ => lift_use k h fun r ρ' v H' F' p k' w e => by
  split at p
  · cases w with
    | tup h r => exact ⟨_, rfl, ⟨_, same_t k'.2.f h⟩, q _ _ _ _ _ p k' e (wk_tup h r)⟩
  · exact p.elim
theorem i_str (he : PE X e (lift X.K B te)) : PI X tg e (liftI X.K B (iS te)) := weakI (pi_str he) fun σ H R ⟨G, F, ρ, P, k, h, q⟩ => lift_use k h fun r ρ' v H' F' p k' w e => by
  split at p
  · cases w
    exact ⟨_, rfl, q _ _ _ _ _ p k' e wk_str⟩
  · exact p.elim
def iR1 (ta : QA) (ρ : Env) (Q : List D → Env → Prop) : Prop := ta ρ fun ws ρ' => match wsR ρ' ws with
  | some [.int n] => (-(2 ^ 62) ≤ n ∧ n < 2 ^ 62) ∧ Q (rangeD 0 n.toNat) ρ'
  | _ => False
def iR2 (ta : QA) (ρ : Env) (Q : List D → Env → Prop) : Prop := ta ρ fun ws ρ' => match wsR ρ' ws with
  | some [.int i, .int j] => (-(2 ^ 62) ≤ i ∧ i < 2 ^ 62 ∧ -(2 ^ 62) ≤ j ∧ j < 2 ^ 62) ∧ Q (rangeD i (j - i).toNat) ρ'
  | _ => False
variable {a b : Expr} {p : Pos}
theorem i_range1 (hg : Gl X "range") (hm : X.mg "range" = none) (ha : PA X [a] (liftA X.K B ta)) (hs : starEach [a] X.env = [(false, eval a X.env)] := by rfl) : PI X tg (.Call (.Name "range" p) [a] [] pos) (liftI X.K B (iR1 ta)) :=
  weakI (pi_range1 hg hm ha hs) fun σ H R ⟨G, F, ρ, P, k, h, q⟩ => liftA_use k h fun ws ρ' vs H' F' p k' w e => by
    split at p
    · rename_i n g
      have r := wsR_ok k' w g
      cases r with
      | cons r1 rr =>
        cases rr
        exact ⟨n, by rw [r1.int], p.1.1, p.1.2, q _ _ _ _ _ p.2 k' e wk_range⟩
    · exact p.elim
theorem i_range2 (hg : Gl X "range") (hm : X.mg "range" = none) (ha : PA X [a, b] (liftA X.K B ta)) (hs : starEach [a, b] X.env = [(false, eval a X.env), (false, eval b X.env)] := by rfl) (hs2 : starEach [b] X.env = [(false, eval b X.env)] := by rfl) :
    PI X tg (.Call (.Name "range" p) [a, b] [] pos) (liftI X.K B (iR2 ta)) :=
  weakI (pi_range2 hg hm ha hs hs2) fun σ H R ⟨G, F, ρ, P, k, h, q⟩ => liftA_use k h fun ws ρ' vs H' F' p k' w e => by
    split at p
    · rename_i i j g
      have r := wsR_ok k' w g
      cases r with
      | cons r1 rr =>
        cases rr with
        | cons r2 rr =>
          cases rr
          exact ⟨i, j, by rw [r1.int, r2.int], p.1, q _ _ _ _ _ p.2 k' e wk_range⟩
    · exact p.elim
end

/-! ### for -/
section
variable {X : Cx} {B : Box} {pos : Pos}
def sFor (ti : QI) (g : QG) (tb : QS) (DP : PEnds) (ρ : Env) : Prop := ti ρ fun ds ρ0 => ∃ I : Nat → Env → Prop, I 0 ρ0 ∧
  (∀ i d ρ, ds[i]? = some d → I i ρ → g (.d d) ρ fun ρ' => tb { DP with nx := I (i + 1), ct := I (i + 1), bk := DP.nx } ρ') ∧ ∀ ρ, I ds.length ρ → DP.nx ρ
/-- an item in flight -/
theorem St0.item {K : PySem.W.Frag} {G F H H' : Hp} {σ : St} {ρ : Env} {x : V} {d : D} (k : St0 K B G F H σ ρ) (h : Yd K F H x d H') :
    ∃ F', Same F F' ∧ Fl K B G F' H' σ ρ x (.d d) := by
  rcases h with ⟨rfl, r⟩ | ⟨p, xs, es, hp, rfl, rfl, rfl, r⟩ | ⟨p, q, v, c, xs, es, hp, hq, npq, rfl, rfl, rfl, r, rc⟩
  · exact ⟨F, Same.refl F, k.d r⟩
  · obtain ⟨fl, e⟩ := k.newT hp r
    exact ⟨_, e, fl⟩
  · obtain ⟨fl, e⟩ := k.newT hp r
    have k1 : St0 K B G (upd F p (.tup xs)) (upd H p (.tup xs)) σ ρ := fl.pop
    obtain ⟨fl2, e2⟩ := k1.newT (p := q) (xs := [v, .ref p]) (ds := [c, .tuple es]) ((upd_ne (Ne.symm npq)).trans hq) (.cons (rc.mono e) (.one (.tup upd_same (r.mono e))))
    exact ⟨_, e.trans e2, fl2⟩
theorem Wk.mono {K : PySem.W.Frag} {J : It} {F F' : Hp} {ds : List D} (w : Wk K J F ds) (e : Same F F') : Wk K J F' ds :=
  ⟨fun i H hi s => w.goes i H hi (e.trans s), fun H s => w.stops H (e.trans s), fun i H x H' hi s y => by
    obtain ⟨d, hd, h⟩ := w.yields i H x H' hi (e.trans s) y
    refine ⟨d, hd, ?_⟩
    rcases h with ⟨h1, r⟩ | ⟨p, xs, es, h1, h2, h3, h4, r⟩ | ⟨p, q, v, c, xs, es, h1, h2, h3, h4, h5, h6, r, rc⟩
    · exact .inl ⟨h1, r.mono e⟩
    · exact .inr (.inl ⟨p, xs, es, h1, h2, h3, h4, r.mono e⟩)
    · exact .inr (.inr ⟨p, q, v, c, xs, es, h1, h2, h3, h4, h5, h6, r.mono e, rc.mono e⟩)⟩
theorem s_for {tg iter : Expr} {body : List Stmt} {ti : QI} {g : QG} {tb : QS} (hp : PassesOwn (model X.prog X.w) X.A X.env X.xe) (hc : X.calm = true) (hi : PI X tg iter (liftI X.K B ti)) (hg : PG X tg (liftG X.K B g)) (hb : PSs X body (liftS X.K B tb))
    (hs : ∀ x, foldedSetIterable iter X.env x = pure x := by intro _; rfl) : PS X (.For tg iter body [] pos) (liftS X.K B (sFor ti g tb)) :=
  weakS (ps_for hp hc hi hg hb hs) fun D σ H ⟨G, F, ρ, DP, k, h, en⟩ => ⟨G, F, ρ, _, k, h, fun ds ρ0 H0 F0 J ⟨I, i0, turn, fin⟩ k0 s0 w => by
    refine ⟨fun i m σ H => m = ds.length - i ∧ i ≤ ds.length ∧ ∃ F' ρ', St0 X.K B G F' H σ ρ' ∧ Same F0 F' ∧ I i ρ', ⟨ds.length, by simp, Nat.zero_le _, F0, ρ0, k0, Same.refl F0, i0⟩, ?_⟩
    rintro i m σ1 H1 ⟨rfl, hi, F1, ρ1, k1, s1, w1⟩
    by_cases hlt : i < ds.length
    · have wk1 := w.mono s1
      refine .inr ⟨wk1.goes i H1 hlt k1.2.f, fun σ' H' => ∃ F' ρ', St0 X.K B G F' H' σ' ρ' ∧ Same F0 F' ∧ I (i + 1) ρ', fun σ' H' z => ⟨ds.length - (i + 1), by omega, rfl, hlt, z⟩, fun x H' y => ?_⟩
      obtain ⟨d, hd, hx⟩ := wk1.yields i H1 x H' hlt k1.2.f y
      obtain ⟨F2, s2, fl⟩ := k1.item hx
      refine ⟨G, F2, ρ1, _, _, fl, turn i d ρ1 hd w1, fun ρ' σ' H3 F3 p k3 s3 => ⟨G, F3, ρ', _, k3, p, ?_⟩⟩
      have s13 := (s1.trans s2).trans s3
      have s03 := s0.trans s13
      exact ⟨fun σ' H' ρ' F' p' k' s => ⟨F', ρ', k', s13.trans s, p'⟩, fun r v σ' H' ρ' F' p' fl s => en.rt r v σ' H' ρ' F' p' fl (s03.trans s), fun σ' H' ρ' F' p' k' s => en.nx σ' H' ρ' F' p' k' (s03.trans s), fun σ' H' ρ' F' p' k' s => ⟨F', ρ', k', s13.trans s, p'⟩⟩
    · have e : i = ds.length := by omega
      subst e
      exact .inl ⟨(w.mono s1).stops H1 k1.2.f, en.nx _ _ _ _ (fin _ w1) k1 (s0.trans s1)⟩⟩
end

/-! ### list comprehensions -/
section
variable {X : Cx} {B : Box} {pos : Pos}
/-- the block's own names forgotten -/
def wipeP (ρ : Env) : List Nat → Env
  | [] => ρ
  | v :: vs => (wipeP ρ vs).set v .un
/-- slots that own nothing -/
def T.bare : T → Prop
  | .un => True
  | .d _ => True
  | .raw _ => True
  | _ => False
def barePl (ρ : Env) (vs : List Nat) : Prop := ∀ v ∈ vs, match ρ[v]? with
  | some t => t.bare
  | none => True
def qLc (ti : QI) (g : QG) (tt : QT) (te : QE) (vs : List Nat) (ρ : Env) (Q : T → Env → Prop) : Prop := ti ρ fun ds ρ0 => barePl ρ0 vs ∧ ∃ I : Nat → List D → Prop, I 0 [] ∧
  (∀ i d acc, ds[i]? = some d → I i acc → g (.d d) (wipeP ρ0 vs) fun ρ2 => tt ρ2 fun b ρ3 => if b = true then te ρ3 fun r ρ4 => ∃ d', r.dat = some d' ∧ wipeP ρ4 vs = wipeP ρ0 vs ∧ acc.length < sizeLine ∧ I (i + 1) (acc ++ [d'])
    else wipeP ρ3 vs = wipeP ρ0 vs ∧ I (i + 1) acc) ∧ ∀ acc, I ds.length acc → Q (.l acc) ρ0
theorem set_unK {K : PySem.W.Frag} {G F H : Hp} {σ : St} {ρ : Env} {i : Nat} (k : St0 K B G F H σ ρ) : St0 K B G F H (σ.set i none) (ρ.set i .un) := by
  refine ⟨mem_set_still k.1 trivial, ?_⟩
  obtain ⟨fp, k'⟩ := k.2
  refine ⟨fun j => if j = i then fun _ => False else fp j, k'.g, k'.f, k'.gf, k'.bx, by simp [k'.len], fun j t hj => ?_, fun j j' a h1 h2 => ?_, fun j a h1 => ?_, fun j a h1 => ?_⟩
  · by_cases e : j = i
    · subst e
      simp only [if_true]
      have hlt : j < ρ.length := by have := (List.getElem?_eq_some_iff.mp hj).1; simpa using this
      rw [List.getElem?_set_self hlt] at hj
      cases hj
      exact fun a z => z
    · simp only [if_neg e]
      rw [List.getElem?_set_ne (Ne.symm e)] at hj
      rw [List.getElem?_set_ne (Ne.symm e)]
      exact (k'.own j t hj).slots (k.1 t (List.mem_of_getElem? hj))
  · by_cases e : j = i <;> by_cases e' : j' = i <;> simp only [e, e', if_true, if_false] at h1 h2
    exact k'.dj j j' a h1 h2
  · by_cases e : j = i <;> simp only [e, if_true, if_false] at h1
    exact k'.out j a h1
  · rw [List.length_set]
    by_cases e : j = i <;> simp only [e, if_true, if_false] at h1
    exact k'.up j a h1
theorem wipeK {K : PySem.W.Frag} {G F H : Hp} {σ : St} {ρ : Env} (k : St0 K B G F H σ ρ) : ∀ vs : List Nat, St0 K B G F H (wipe σ vs) (wipeP ρ vs)
  | [] => k
  | v :: vs => set_unK (wipeK k vs)
theorem wipeP_len (ρ : Env) : ∀ vs : List Nat, (wipeP ρ vs).length = ρ.length
  | [] => rfl
  | v :: vs => by unfold wipeP; rw [List.length_set, wipeP_len ρ vs]
theorem wipeP_at {ρ : Env} {i : Nat} : ∀ {vs : List Nat}, i ∉ vs → (wipeP ρ vs)[i]? = ρ[i]?
  | [], _ => rfl
  | v :: vs, h => by
    unfold wipeP
    rw [List.getElem?_set_ne (fun e => h (by rw [e]; exact List.mem_cons_self))]
    exact wipeP_at fun m => h (List.mem_cons_of_mem _ m)
/-- back to the slots as they were: the owned ones stand as ever, the bare ones of the block need the frozen part alone -/
theorem unwipeK {K : PySem.W.Frag} {G0 G F F' H H' : Hp} {σ : St} {ρ : Env} {vs : List Nat} (k : St0 K B G0 F H σ ρ) (hb : barePl ρ vs) (s : Same F F') (k' : St0 K B G F' H' (wipe σ vs) (wipeP ρ vs)) : St0 K B G F' H' σ ρ := by
  refine ⟨k.1, ?_⟩
  obtain ⟨fp, w⟩ := k.2
  obtain ⟨fq, w'⟩ := k'.2
  refine ⟨fun j => if j ∈ vs then fun _ => False else fq j, w'.g, w'.f, w'.gf, w'.bx, w.len, fun j t hj => ?_, fun j j' a h1 h2 => ?_, fun j a h1 => ?_, fun j a h1 => ?_⟩
  · by_cases e : j ∈ vs
    · simp only [if_pos e]
      have b := hb j e
      rw [hj] at b
      have o := w.own j t hj
      cases t with
      | un => exact fun a z => z
      | d x => obtain ⟨_, v, e1, r⟩ := o; exact ⟨fun a z => z, v, e1, r.mono s⟩
      | raw v => exact ⟨fun a z => z, o.2⟩
      | l ds => exact b.elim
      | k ds => exact b.elim
      | kt ds => exact b.elim
      | bx u => exact b.elim
      | al i => exact b.elim
    · simp only [if_neg e]
      have o := w'.own j t (by rw [wipeP_at e]; exact hj)
      rw [wipe_out e] at o
      exact o.slots (k.1 t (List.mem_of_getElem? hj))
  · by_cases e : j ∈ vs <;> by_cases e' : j' ∈ vs <;> simp only [e, e', if_true, if_false] at h1 h2
    exact w'.dj j j' a h1 h2
  · by_cases e : j ∈ vs <;> simp only [e, if_true, if_false] at h1
    exact w'.out j a h1
  · by_cases e : j ∈ vs <;> simp only [e, if_true, if_false] at h1
    have := w'.up j a h1
    rw [wipeP_len] at this
    exact this
theorem wipe_idem {σ : St} {vs : List Nat} {σ2 : St} {ρ2 ρ : Env} (h : wipe σ2 vs = wipe σ vs) (h2 : wipeP ρ2 vs = wipeP ρ vs) {K : PySem.W.Frag} {G F H : Hp} (k : St0 K B G F H σ2 ρ2) : St0 K B G F H (wipe σ vs) (wipeP ρ vs) := by
  rw [← h, ← h2]
  exact wipeK k vs
/-- an address is another's for a while -/
theorem St0.lend {K : PySem.W.Frag} {G F H : Hp} {σ : St} {ρ : Env} {p : Addr} {xs : List V} (k : St0 K B G F H σ ρ) (h : H p = none) : St0 K B (upd G p (.lst xs)) F (upd H p (.lst xs)) σ ρ := by
  refine ⟨k.1, ?_⟩
  obtain ⟨fp, w⟩ := k.2
  have hf := w.free h
  have w' := w.grow (Same.refl F) (fun b u e => same_upd h (o := .lst xs) b u (w.f b u e)) (same_upd h) (fun b u e => .inl e)
  refine ⟨fp, fun b u e => ?_, w'.f, fun b u e => ?_, B.okG w'.bx hf.2, w'.len, w'.own, w'.dj, fun i b hb => ⟨?_, (w'.out i b hb).2⟩, w'.up⟩
  · by_cases hb : b = p
    · subst hb; rw [upd_same] at e ⊢; exact e
    · rw [upd_ne hb] at e; exact w'.g b u e
  · by_cases hb : b = p
    · subst hb; exact hf.1
    · rw [upd_ne hb] at e; exact w'.gf b u e
  · have hne : b ≠ p := fun z => by subst z; exact w.live i b hb h
    rw [upd_ne hne]
    exact (w'.out i b hb).1
theorem St0.lent {K : PySem.W.Frag} {G F H : Hp} {σ : St} {ρ : Env} {p : Addr} {xs ys : List V} (k : St0 K B (upd G p (.lst xs)) F H σ ρ) (hg : G p = none) (hk : B.ok G F) : St0 K B (upd G p (.lst ys)) F (upd H p (.lst ys)) σ ρ := by
  refine ⟨k.1, ?_⟩
  obtain ⟨fp, w⟩ := k.2
  have hF : F p = none := w.gf p _ upd_same
  have na : ∀ i b, fp i b → b ≠ p := fun i b hb z => by
    subst z
    have := (w.out i b hb).1
    rw [upd_same] at this
    cases this
  refine ⟨fp, fun b u e => ?_, fun b u e => ?_, fun b u e => ?_, B.okG hk hg, w.len, fun i t hi => (w.own i t hi).frame (fun b hb => upd_ne (na i b hb)) (Same.refl F), w.dj, fun i b hb => ⟨?_, (w.out i b hb).2⟩, w.up⟩
  · by_cases hb : b = p
    · subst hb; rw [upd_same] at e ⊢; exact e
    · rw [upd_ne hb] at e ⊢; exact w.g b u (by rw [upd_ne hb]; exact e)
  · have hb : b ≠ p := fun z => by subst z; rw [hF] at e; cases e
    rw [upd_ne hb]
    exact w.f b u e
  · by_cases hb : b = p
    · subst hb; exact hF
    · rw [upd_ne hb] at e; exact w.gf b u (by rw [upd_ne hb]; exact e)
  · rw [upd_ne (na i b hb)]
    have := (w.out i b hb).1
    rw [upd_ne (na i b hb)] at this
    exact this

theorem wipe_at {σ : St} {vs : List Nat} {j : Nat} (h : j ∈ vs) (hj : j < σ.length) : (wipe σ vs)[j]? = some none := by
  induction vs with
  | nil => cases h
  | cons v vs ih =>
    unfold wipe
    by_cases e : v = j
    · subst e
      rw [List.getElem?_set_self (by rw [wipe_length]; exact hj)]
    · rw [List.getElem?_set_ne e]
      exact ih ((List.mem_cons.mp h).resolve_left (Ne.symm e))
theorem wipe_eq {σ σ' : St} {vs : List Nat} (hl : σ'.length = σ.length) (h : ∀ j, j ∉ vs → σ'[j]? = σ[j]?) : wipe σ' vs = wipe σ vs := by
  apply List.ext_getElem?
  intro j
  by_cases hj : j < σ.length
  · by_cases e : j ∈ vs
    · rw [wipe_at e hj, wipe_at e (by omega)]
    · rw [wipe_out e, wipe_out e, h j e]
  · rw [List.getElem?_eq_none (by rw [wipe_length]; omega), List.getElem?_eq_none (by rw [wipe_length]; omega)]
theorem wipe_wipe {σ : St} {vs : List Nat} : wipe (wipe σ vs) vs = wipe σ vs := wipe_eq (wipe_length _ _) fun j h => wipe_out h
theorem upd_id {H : Hp} {a : Addr} {o : HO} (h : H a = some o) : upd H a o = H := by
  funext b
  by_cases e : b = a
  · subst e; rw [upd_same, h]
  · rw [upd_ne e]
/-- a target within a block: only the slots at vs change -/
def liftGv (K : PySem.W.Frag) (B : Box) (vs : List Nat) (g : QG) : TG := fun v σ H Q => ∃ G F ρ r P, Fl K B G F H σ ρ v r ∧ g r ρ P ∧ ∀ ρ' σ' H' F', P ρ' → σ'.length = σ.length → (∀ j, j ∉ vs → σ'[j]? = σ[j]?) → St0 K B G F' H' σ' ρ' → Same F F' → Q σ' H'
def liftGvs (K : PySem.W.Frag) (B : Box) (vs : List Nat) (g : QGs) : TGs := fun us σ H Q => ∃ G F ρ ds P, St0 K B G F H σ ρ ∧ RpAll K F us ds ∧ g ds ρ P ∧ ∀ ρ' σ' H' F', P ρ' → σ'.length = σ.length → (∀ j, j ∉ vs → σ'[j]? = σ[j]?) → St0 K B G F' H' σ' ρ' → Same F F' → Q σ' H'
variable {e : Expr} {es : List Expr} {vs : List Nat}
theorem gv_name {i : Nat} {x : Str} (hN : X.N.Nodup) (hv : i ∈ vs := by decide) (hi : X.N[i]? = some x := by rfl) (hx : Loc X.env.scope x := by first | exact Or.inl rfl | exact Or.inr rfl) (hf : X.fn x = true ∨ X.env.scope.names.lookup x = some .local := by first | exact .inl rfl | exact .inr rfl) : PG X (.Name x pos) (liftGv X.K B vs (gN i)) :=
  weakG (pg_name hN hi hx hf) fun v σ H Q ⟨G, F, ρ, r, P, k, ⟨⟨h1, h2⟩, h⟩, q⟩ => q _ _ _ _ h (by simp) (fun j hj => List.getElem?_set_ne (fun z => hj (by rw [← z]; exact hv))) (k.set h1 h2) (Same.refl F)
theorem gvs_nil : PGs X [] (liftGvs X.K B vs gNilP) := weakGs pgs_nil fun us σ H Q ⟨G, F, ρ, ds, P, k, r, ⟨e, h⟩, q⟩ => by
  subst e
  cases r
  exact ⟨rfl, q _ _ _ _ h rfl (fun _ _ => rfl) k (Same.refl F)⟩
variable {g : QG} {gs : QGs}
theorem gvs_cons (h1 : PG X e (liftGv X.K B vs g)) (h2 : PGs X es (liftGvs X.K B vs gs)) (hs : (assignEach (e :: es) X.env).map (·.2) = assign e X.env :: (assignEach es X.env).map (·.2) := by rfl) : PGs X (e :: es) (liftGvs X.K B vs (gConsP g gs)) :=
  weakGs (pgs_cons h1 h2 hs) fun us σ H Q ⟨G, F, ρ, ds, P, k, r, h, q⟩ => by
    cases r with
    | nil => exact h.elim
    | cons r1 rr =>
      exact ⟨_, _, rfl, G, F, ρ, .d _, _, k.d r1, h, fun ρ' σ' H' F' p l1 o1 k' s => ⟨G, F', ρ', _, P, k', rr.mono s, p, fun ρ2 σ2 H2 F2 p2 l2 o2 k2 s2 => q ρ2 σ2 H2 F2 p2 (l2.trans l1) (fun j hj => (o2 j hj).trans (o1 j hj)) k2 (s.trans s2)⟩⟩
theorem gv_tup {k0 : Nat} {n : Nat} (hc : X.calm = true) (h : PGs X es (liftGvs X.K B vs gs)) (hn : (assignEach es X.env).length = n := by rfl) (hst : (assignEach es X.env).findIdx? (·.1) = none := by rfl) : PG X (.Tuple es k0 pos) (liftGv X.K B vs (gT n gs)) :=
  weakG (pg_tup hc h hn hst) fun v σ H Q ⟨G, F, ρ, r, P, k, h, q⟩ => by
    unfold gT at h
    split at h
    · have rp := fl_d k
      cases rp with
      | tup s r => exact ⟨_, _, rfl, same_t k.pop.2.f s, by rw [r.length]; exact h.1, G, F, ρ, _, P, k.pop, r, h.2, q⟩
    · exact h.elim
def qYes (ρ : Env) (Q : Bool → Env → Prop) : Prop := Q true ρ
theorem weakTs {c : List Expr} {t t' : TT} (h : PTs X c t) (k : ∀ σ H Q, t' σ H Q → t σ H Q) : PTs X c t' := ⟨fun pins s σ H Q I q => h.run pins s σ H Q I (k σ H Q q)⟩
theorem ts_nil : PTs X [] (liftT X.K B qYes) := weakTs pts_nil fun σ H Q ⟨G, F, ρ, P, k, h, q⟩ => q _ _ _ _ h k (Same.refl F)
theorem ts_one {c : Expr} {t : QT} (h : PT X c (liftT X.K B t)) : PTs X [c] (liftT X.K B t) := pts_one h
theorem lift_lc {K : PySem.W.Frag} {ti : QI} {tt : QT} {te : QE} {σ : St} {H : Hp} {Q : VK} (h : lift K B (qLc ti g tt te vs) σ H Q) : tLc (liftI K B ti) (liftGv K B vs g) (liftT K B tt) (lift K B te) vs σ H Q := by
  obtain ⟨G, F, ρ, P, k, h, q⟩ := h
  refine ⟨G, F, ρ, _, k, h, fun ds ρ0 H0 F0 J ⟨hb, I, i0, turn, fin⟩ k0 s0 w => fun D hD => ?_⟩
  have hG : G D = none := (k0.2.free hD).2
  refine ⟨fun i m H => m = ds.length - i ∧ i ≤ ds.length ∧ ∃ F' acc ds', St0 K B (upd G D (.lst acc)) F' H (wipe σ vs) (wipeP ρ0 vs) ∧ Same F0 F' ∧ RpAll K F' acc ds' ∧ I i ds',
    ⟨ds.length, by simp, Nat.zero_le _, F0, [], [], wipeK (k0.lend hD) vs, Same.refl F0, .nil, i0⟩, ?_⟩
  rintro i m H1 ⟨rfl, hi, F1, acc, ds', k1, s1, ra, w1⟩
  by_cases hlt : i < ds.length
  · have wk1 := w.mono s1
    refine .inr ⟨wk1.goes i H1 hlt k1.2.f, fun H' => ∃ F' acc ds', St0 K B (upd G D (.lst acc)) F' H' (wipe σ vs) (wipeP ρ0 vs) ∧ Same F0 F' ∧ RpAll K F' acc ds' ∧ I (i + 1) ds', fun H' z => ⟨ds.length - (i + 1), by omega, rfl, hlt, z⟩, fun x H' y => ?_⟩
    obtain ⟨d, hd, hx⟩ := wk1.yields i H1 x H' hlt k1.2.f y
    obtain ⟨F2, s2, fl⟩ := k1.item hx
    refine ⟨_, F2, _, _, _, fl, turn i d ds' hd w1, fun ρ2 σ2 H2 F3 p l2 o2 k2 s3 => ?_⟩
    have hw2 : wipe σ2 vs = wipe σ vs := (wipe_eq l2 o2).trans wipe_wipe
    refine ⟨hw2, _, F3, ρ2, _, k2, p, fun b ρ3 H3 F4 p3 k3 s4 => ?_⟩
    have s14 := ((s1.trans s2).trans s3).trans s4
    have r4 := ra.mono ((s2.trans s3).trans s4)
    cases b with
    | true =>
      simp only [if_true] at p3 ⊢
      refine ⟨_, F4, ρ3, _, k3, p3, fun r ρ4 v H4 F5 ⟨d', hd', hw, hlen, i1⟩ fl s5 => ?_⟩
      obtain ⟨F6, s6, k6, rp⟩ := fl.ok.frz fl.still hd'
      have k6 : St0 K B (upd G D (.lst acc)) F6 H4 σ2 ρ4 := ⟨fl.still, k6⟩
      refine ⟨acc, k6.2.g D _ upd_same, by rw [ra.length]; exact hlen, F6, acc ++ [v], ds' ++ [d'], ?_, (s14.trans s5).trans s6, (r4.mono (s5.trans s6)).append (.one rp), i1⟩
      have k7 := wipeK k6 vs
      rw [hw2, hw] at k7
      exact k7.lent hG (B.okF k0.2.bx (((s14.trans s5).trans s6)))
    | false =>
      simp only [Bool.false_eq_true, if_false] at p3 ⊢
      have k7 := wipeK k3 vs
      rw [hw2, p3.1] at k7
      exact ⟨F4, acc, ds', k7, s14, r4, p3.2⟩
  · have e : i = ds.length := by omega
    subst e
    refine .inl ⟨(w.mono s1).stops H1 k1.2.f, ?_⟩
    have k2 := unwipeK k0 hb s1 k1
    have hD1 : H1 D = some (.lst acc) := k1.2.g D _ upd_same
    have k3 := k2.2.unpark hG (B.okF k0.2.bx s1) ra
    rw [upd_id hD1] at k3
    exact q _ _ _ _ _ (fin ds' w1) ⟨k0.1, k3, fun j z => nomatch z⟩ (s0.trans s1)
theorem q_lc {elt tg iter : Expr} {ifs : List Expr} {scope : Scope} {own : List (Str × Nat)} {ti : QI} {tt : QT} {te : QE} (hc : X.calm = true) (hN : X.N.Nodup) (hi : PI X tg iter (liftI X.K B ti)) (ok : BlkOk X.N X.env.scope scope own)
    (hg : ∀ (s : Shared) (H : Hp) (C : Addr) (cl : List (Str × Addr)) (fp : List Addr), PG (X.blk s H scope (compEnvC scope cl C X.env) fp) tg (liftGv X.K B (own.map (·.2)) g)) (ht : ∀ (s : Shared) (H : Hp) (C : Addr) (cl : List (Str × Addr)) (fp : List Addr), PTs (X.blk s H scope (compEnvC scope cl C X.env) fp) ifs (liftT X.K B tt))
    (he : ∀ (s : Shared) (H : Hp) (C : Addr) (cl : List (Str × Addr)) (fp : List Addr), PE (X.blk s H scope (compEnvC scope cl C X.env) fp) elt (lift X.K B te)) (hs : ∀ x, foldedSetIterable iter X.env x = pure x := by intro _; rfl) :
    PE X (.ListComp elt [⟨tg, iter, ifs, 0⟩] scope pos) (lift X.K B (qLc ti g tt te (own.map (·.2)))) := weakE (pe_lc hc hN hi ok hg ht he hs) fun _ _ _ => lift_lc
/-- name = [..] on one line -/
theorem s_setLc {i : Nat} {y : Str} {py spos : Pos} {elt tg iter : Expr} {ifs : List Expr} {scope : Scope} {own : List (Str × Nat)} {ti : QI} {tt : QT} {te : QE} (hc : X.calm = true) (hN : X.N.Nodup)
    (hsw : swapsWith (.ListComp elt [⟨tg, iter, ifs, 0⟩] scope pos) (some (.Name y py)) spos.line X.env = pure true) (hi : PI X tg iter (liftI X.K B ti)) (ok : BlkOk X.N X.env.scope scope own)
    (hg : ∀ (s : Shared) (H : Hp) (C : Addr) (cl : List (Str × Addr)) (fp : List Addr), PG (X.blk s H scope (compEnvC scope cl C X.env) fp) tg (liftGv X.K B (own.map (·.2)) g)) (ht : ∀ (s : Shared) (H : Hp) (C : Addr) (cl : List (Str × Addr)) (fp : List Addr), PTs (X.blk s H scope (compEnvC scope cl C X.env) fp) ifs (liftT X.K B tt))
    (he : ∀ (s : Shared) (H : Hp) (C : Addr) (cl : List (Str × Addr)) (fp : List Addr), PE (X.blk s H scope (compEnvC scope cl C X.env) fp) elt (lift X.K B te)) (hy : X.N[i]? = some y := by rfl) (hyl : X.env.scope.names.lookup y = some .local := by rfl) (hs : ∀ x, foldedSetIterable iter X.env x = pure x := by intro _; rfl) :
    PS X (.Assign [.Name y py] (.ListComp elt [⟨tg, iter, ifs, 0⟩] scope pos) spos) (liftS X.K B (sAsg (qLc ti g tt te (own.map (·.2))) (gN i))) :=
  weakS (ps_setLc hc hN hy hyl hsw hi ok hg ht he hs) fun D σ H ⟨G, F, ρ, DP, k, h, en⟩ => lift_lc (B := B) ⟨G, F, ρ, _, k, h, fun r ρ' v H' F' ⟨⟨h1, h2⟩, p⟩ fl e => en.nx _ _ _ _ p (fl.set h1 h2) e⟩
end
end PL

set_option Elab.async false
set_option linter.all false
set_option maxRecDepth 100000
/-! PL, defs where no repr is under way: FnOk's promise, told at one place. -/
namespace PL
open PySem PySem.Spec L2
open PyProof.Rows
section
variable {P : Program} {w : World} {K : PySem.W.Frag} {mg mb : Str → Option Value} {base : Heap}
/-- a def's promise at one place -/
structure FnA (P : Program) (w : World) (K : PySem.W.Frag) (mg : Str → Option Value) (base : Heap) (CX : CXT) (A : Around) (f : Addr) (fd : FuncData) (ps : List Str) (sp : Sp) : Prop where
  len : ∀ us H Q E, sp us H Q E → us.length = ps.length
  goes : ∀ (out : List PySem.Env) (st : Shared) (H : Hp) (given : Args) (us : List Value) (vs : List V) (Q : VK) (E : XK), Env0 P w K mg base A out st H → BindsTo st fd given (ps.zip us) → Vals vs us → sp vs H Q E →
    codeAny (model P w) A (.call (.ref f) given) (CR CX out P w H st Q E) st
/-- room, and no repr under way -/
structure RoomG (k : Nat) (A : Around) : Prop extends Room k A where
  gd : A.guards = some []
theorem RoomG.mono {j k : Nat} {A : Around} (r : RoomG k A) (h : j ≤ k) : RoomG j A := ⟨r.toRoom.mono h, r.gd⟩
theorem RoomG.deeper {k : Nat} {A : Around} (r : RoomG (k + 1) A) (env : PySem.Env) : RoomG k (A.deeper env) := ⟨r.toRoom.deeper env, r.gd⟩
theorem RoomG.units {k : Nat} {A : Around} (r : RoomG k A) : A.units + 64 < cLine := r.toRoom.units
def FnG (P : Program) (w : World) (K : PySem.W.Frag) (mg : Str → Option Value) (base : Heap) (CX : CXT) (k : Nat) (f : Addr) (fd : FuncData) (ps : List Str) (sp : Sp) : Prop := ∀ A : Around, RoomG k A → FnA P w K mg base CX A f fd ps sp
theorem fnG_of {CX : CXT} {k : Nat} {f : Addr} {fd : FuncData} {ps : List Str} {sp : Sp} (F : FnOk P w K mg base CX k f fd ps sp) : FnG P w K mg base CX k f fd ps sp :=
  fun A hr => ⟨F.len, fun out st H given us vs Q E h1 h2 h3 h4 => F.run A out st H given us vs Q E hr.toRoom h1 h2 h3 h4⟩
/-- the def of the law, by its body, at one place -/
theorem lawRun {CX : CXT} {k : Nat} {f : Addr} {x qual : Str} {st : Stmt} {fd : FuncData} {N ps : List Str} {A : Around} {outer : List PySem.Env} {s : Shared} {H : Hp} {us : List Value} {vs : List V} {Q : VK} {E : XK} {args : Args} (F : Fun K x qual st f fd) (S : FnScope N ps (defScope st))
    (hr : Room (k + 1) A) (e0 : Env0 P w K mg base A outer s H) (hb : BindsTo s fd args (ps.zip us)) (r : Vals vs us) (hl : vs.length = ps.length)
    (hbody : ∀ cdv : Value, Room k (A.deeper (PyProof.Rows.envOfC qual (defScope st) s.heap.objs.size f cdv)) → ∃ t, PSs (cxOf CX P w K mg base N qual (defScope st) f cdv A outer s H E).nox (defBody st) t ∧ t { nx := fun _ H' => Q .non H', rt := Q } (L2.start N vs) H) :
    codeAny (model P w) A (.call (.ref f) args) (CR CX outer P w H s Q E) s := by
  obtain ⟨oc, od, kV, doc, pm, an, cdv, ct, osl, rfl, lk, hcd⟩ := F.ex
  have KX : K.In s.heap := e0.mod.kin.keeps fun b o e => (e0.bs b o e).1
  have nl : s.heap.NoLimit := e0.mod.nolimit.keeps fun b o e => (e0.bs b o e).1
  refine codeAny_call_function hr.depth (KX _ _ lk) rfl S.co S.gen rfl (PySem.W.codeRec_of KX hcd) (hb _ _ _ _ (wpAny_newFunctionEnv_cells S.kind (fun y hy => ?_) fun env he s1 ic => ?_))
  · rcases S.par y.1 (List.of_mem_zip hy).1 with z | z
    · exact .inl z
    · exact .inr ⟨z, PySem.W.cellsFrom_some _ _ _ (.inl z)⟩
  · subst he
    obtain ⟨t, ht, hq⟩ := hbody cdv (hr.deeper _)
    have J := inv_start (CX := CX) (E := E) S hr.hd e0 hl r ic
    refine ⟨nl.keeps ic.toInCall.keep, codeAny_func (wpAny_mono (ht.nox.run [] s1 (L2.start N vs) H _ J hq) (fun fl s' z => ?_) fun _ _ z => z)⟩
    have out : ∀ {σ' : L2.St} {H' : Hp} {v : V} {u : Value}, Inv (cxOf CX P w K mg base N qual (defScope st) f cdv A outer s H E) [] σ' H' s' → RelV v u → Q v H' → CE outer P w H s Q u s' := fun {σ' H' v u} I rv q => ⟨v, H', I.os, I.bare, I.base, I.hok, rv, q⟩
    cases fl with
    | ret u => obtain ⟨v, σ', H', I, rv, q⟩ := z; exact out I rv q
    | next => obtain ⟨σ', H', I, q⟩ := z; exact out (v := .non) (u := Value.none) I rfl q
    | brk => obtain ⟨_, _, _, q⟩ := z; exact q.elim
    | cont => obtain ⟨_, _, _, q⟩ := z; exact q.elim
/-- a def's body keeps its promise -/
theorem fnG_mk {CX : CXT} {k : Nat} {f : Addr} {x qual : Str} {st : Stmt} {fd : FuncData} {N ps : List Str} {sp : Sp} (F : Fun K x qual st f fd) (S : FnScope N ps (defScope st)) (len : ∀ vs H Q E, sp vs H Q E → vs.length = ps.length)
    (hbody : ∀ (cdv : Value) (A : Around) (outer : List PySem.Env) (s : Shared) (H : Hp) (vs : List V) (Q : VK) (E : XK), RoomG k (A.deeper (envOfC qual (defScope st) s.heap.objs.size f cdv)) → sp vs H Q E →
      ∃ t, PSs (cxOf CX P w K mg base N qual (defScope st) f cdv A outer s H E).nox (defBody st) t ∧ t { nx := fun _ H' => Q .non H', rt := Q } (L2.start N vs) H) : FnG P w K mg base CX (k + 1) f fd ps sp :=
  fun A hr => ⟨len, fun out s H given us vs Q E e0 hb r h => lawRun F S hr.toRoom e0 hb r (len _ _ _ _ h) fun cdv _ => hbody cdv A out s H vs Q E (hr.deeper _) h⟩
end
/-! ### calls -/
section
variable {X : Cx} {CX : CXT} {f : Addr} {fd : FuncData} {ps ks : List Str} {sp : Sp} {E : XK} {x : Str} {p pos : Pos} {e : Expr} {es : List Expr} {te : TE} {t tk : TA} {g : List Value → List Value → List Value} {gV : List V → List V → List V} {kws : List Keyword}
theorem goA {pins : List (Addr × Obj)} {σ : L2.St} {H : Hp} {s : Shared} {Q : VK} {given : Args} {us : List Value} {vs : List V} (F : FnA X.prog X.w X.K X.mg X.base CX X.A f fd ps sp) (hb : BindsTo s fd given (ps.zip us)) (hx : Passes CX X E)
    (I : Inv X pins σ H s) (r : Vals vs us) (h : sp vs H Q E) : codeAny (model X.prog X.w) X.A (.call (.ref f) given) (fun r s' => match r with | .ok (.ret v) => EP X pins σ Q v s' | .ok _ => False | .error e => X.xe e s') s :=
  codeAny_mono (F.goes X.stack s H given us vs Q E I.env0 hb r h) fun r s' hq => match r, hq with
    | .error e, hq => hx pins σ H s e s' I hq
    | .ok (.ret u), hq => I.after hq
    | .ok .next, hq => False.elim hq
    | .ok .brk, hq => False.elim hq
    | .ok .cont, hq => False.elim hq
theorem pe_callA (F : FnA X.prog X.w X.K X.mg X.base CX X.A f fd ps sp) (hg : Gl X x) (hm : X.mg x = some (.ref f)) (hk : PySem.W.keepIn X.K (.ref f) = true) (hb : Binds X.K fd ps []) (hx : Passes CX X E)
    (ha : PA X (e :: es) t) (hdb : (x == ("__debug__" : Str)) = false := by decide) (he : starEach (e :: es) X.env = (false, eval e X.env) :: starEach es X.env := by rfl) (hpl : (backTo pos (starEach es X.env)).any (·.1) = false := by rfl) :
    PE X (.Call (.Name x p) (e :: es) [] pos) (tCall sp [] E t) := ⟨fun pins s σ H Q I h => by
  refine wpAny_Call_Name_kw (ld_glob I hg hm (PySem.W.callWith_K (h₀ := X.base) I.ok.mod.kin hk ?_ he hpl) hdb)
  refine thn (ha.run pos pins s σ H _ I h) fun us s1 ⟨vs, H1, I1, r, q⟩ => ⟨I1.kIn, ?_⟩
  have q : sp (vs ++ []) H1 Q E := q
  rw [List.append_nil] at q
  have hb1 := hb s1 us I1.kIn (by rw [List.append_nil, ← r.length]; exact F.len _ _ _ _ q)
  rw [List.append_nil] at hb1
  exact wpAny_call (goA F hb1 hx I1 r q)⟩
theorem kwA {pins : List (Addr × Obj)} {σ : L2.St} {H : Hp} {s : Shared} {Q : VK} {us ws : List Value} {vs zs : List V} (F : FnA X.prog X.w X.K X.mg X.base CX X.A f fd ps sp) (hb : KBinds X.K fd ps ks g gV) (hx : Passes CX X E)
    (I : Inv X pins σ H s) (r : Vals vs us) (rz : Vals zs ws) (h : sp (gV vs zs) H Q E) : wpAny (model X.prog X.w) X.A (call (.ref f) us (ks.zip ws)) (EP X pins σ Q) X.xe s :=
  have r2 := hb.rel r rz
  wpAny_call (goA F (hb.to s us ws I.kIn (by rw [← r2.length]; exact F.len _ _ _ _ h)) hx I r2 h)
theorem pe_callKA (F : FnA X.prog X.w X.K X.mg X.base CX X.A f fd ps sp) (hg : Gl X x) (hm : X.mg x = some (.ref f)) (hk : PySem.W.keepIn X.K (.ref f) = true) (hb : KBinds X.K fd ps ks g gV) (hx : Passes CX X E)
    (ha : PA X (e :: es) t) (hkw : PK X kws tk) (hall : (backToKw pos (keywordEach kws X.env)).all (·.1.isSome) = true) (hks : (backToKw pos (keywordEach kws X.env)).filterMap (·.1) = ks)
    (hdb : (x == ("__debug__" : Str)) = false) (he : starEach (e :: es) X.env = (false, eval e X.env) :: starEach es X.env) (hpl : ((backTo pos (starEach (e :: es) X.env)).any (·.1) || (backToKw pos (keywordEach kws X.env)).any (·.1.isNone)) = false) :
    PE X (.Call (.Name x p) (e :: es) kws pos) (tCallK sp gV E t tk) := ⟨fun pins s σ H Q I h => by
  refine wpAny_Call_Name_kw (ld_glob I hg hm (PySem.W.callWith_KW (h₀ := X.base) I.ok.mod.kin hk hall ?_ hpl he) hdb)
  refine thn (ha.run pos pins s σ H _ I h) fun us s1 ⟨vs, H1, I1, r, q⟩ => thn (hkw.run pos pins s1 σ H1 _ I1 q) fun ws s2 ⟨zs, H2, I2, rz, q2⟩ => ⟨I2.kIn, ?_⟩
  rw [hks]
  exact kwA F hb hx I2 r rz q2⟩
theorem pe_callSA {sp_ : Pos} (F : FnA X.prog X.w X.K X.mg X.base CX X.A f fd ps sp) (hb : Binds X.K fd ps []) (hk : PySem.W.keepIn X.K (.ref f) = true) (hg : Gl X x) (hm : X.mg x = some (.ref f)) (hx : Passes CX X E) (he : PE X e te) (hd : (x == ("__debug__" : Str)) = false)
    (hst : starEach [.Starred e sp_] X.env = [(true, eval e X.env)]) :
    PE X (.Call (.Name x p) [.Starred e sp_] [] pos) (fun σ H Q => te σ H fun y H1 => ∃ a xs, y = V.ref a ∧ (SqT X.K H1 a xs ∨ SqL X.K H1 a xs) ∧ sp xs H1 Q E) := ⟨fun pins s σ H Q I h => by
  refine wpAny_Call_Name_kw (ld_glob I hg hm (PySem.W.callWith_S (h₀ := X.base) I.ok.mod.kin hk ?_ hst) hd)
  refine thn (he.run pins s σ H _ I h) fun v s1 ⟨y, H1, I1, ry, a, xs, ey, hxs, q⟩ => ?_
  subst ey
  cases ry
  refine StX.star_any I1 hxs fun us s2 I2 rv => ⟨I2.kIn, ?_⟩
  have hb1 := hb s2 us I2.kIn (by rw [List.append_nil, ← rv.length]; exact F.len _ _ _ _ q)
  rw [List.append_nil] at hb1
  exact wpAny_call (goA F hb1 hx I2 rv q)⟩
end
end PL

set_option Elab.async false
set_option linter.all false
set_option maxRecDepth 100000
/-! PL, part 5: defs and their calls. -/
namespace PL
open PySem PySem.Spec L2

/-- what may be handed in -/
def T.arg : T → Prop
  | .d _ => True
  | .raw _ => True
  | .bx _ => True
  | _ => False
theorem T.arg_still {t : T} (h : t.arg) : t.still := by cases t <;> first | exact trivial | exact h.elim
/-- a def's promise by data: φ tells of the arguments and the wanted end -/
def spP (K : PySem.W.Frag) (B : Box) (n : Nat) (φ : List T → (T → Prop) → Prop) : Sp := fun vs H Q _ => ∃ G F ts P, ts.length = n ∧ (∀ t ∈ ts, t.arg) ∧ Ok K B G F H (vs.map some) ts ∧ φ ts P ∧
  ∀ r v H' F', P r → r.still → Ok K B G F' H' (vs.map some ++ [some v]) (ts ++ [r]) → Same F F' → Q v H'
theorem spP_len {K : PySem.W.Frag} {B : Box} {n : Nat} {φ : List T → (T → Prop) → Prop} : ∀ vs H Q E, spP K B n φ vs H Q E → vs.length = n := fun vs H Q E ⟨G, F, ts, P, hl, _, ok, _⟩ => by
  have := ok.len
  rw [List.length_map] at this
  omega
def startP (N : List Str) (ts : List T) : Env := ts ++ List.replicate (N.length - ts.length) .un
def keeps (ts : List T) (ρ : Env) : Prop := ∀ (i : Nat) u, ts[i]? = some (.bx u) → ρ[i]? = some (.bx u)
theorem keeps_nil (ρ : Env) : keeps [] ρ ↔ True := ⟨fun _ => trivial, fun _ i u h => by simp at h⟩
theorem keeps_cons (t r : T) (ts : List T) (ρ : Env) : keeps (t :: ts) (r :: ρ) ↔ (∀ u, t = .bx u → r = .bx u) ∧ keeps ts ρ := by
  constructor
  · intro h
    refine ⟨fun u e => ?_, fun i u e => ?_⟩
    · have := h 0 u (by simp [e])
      simpa using this
    · have := h (i + 1) u (by simpa using e)
      simpa using this
  · rintro ⟨h1, h2⟩ i u e
    cases i with
    | zero =>
      simp at e
      simp [h1 u e]
    | succ i => simpa using h2 i u (by simpa using e)
theorem keeps_d (x : D) (r : T) (ts : List T) (ρ : Env) : keeps (.d x :: ts) (r :: ρ) ↔ keeps ts ρ := by
  rw [keeps_cons]
  exact ⟨fun h => h.2, fun h => ⟨(fun u e => nomatch e), h⟩⟩
theorem keeps_raw (x : V) (r : T) (ts : List T) (ρ : Env) : keeps (.raw x :: ts) (r :: ρ) ↔ keeps ts ρ := by
  rw [keeps_cons]
  exact ⟨fun h => h.2, fun h => ⟨(fun u e => nomatch e), h⟩⟩
theorem keeps_bx (a b : Addr) (ts : List T) (ρ : Env) : keeps (.bx a :: ts) (.bx b :: ρ) ↔ a = b ∧ keeps ts ρ := by
  rw [keeps_cons]
  exact ⟨fun h => ⟨by have := h.1 a rfl; cases this; rfl, h.2⟩, fun h => ⟨(fun u e => by cases e; rw [h.1]), h.2⟩⟩

section
variable {K : PySem.W.Frag} {B : Box} {G F F' H H' : Hp} {σ : St} {ρ : Env}
theorem Ok.pad (k : Ok K B G F H σ ρ) (st : ∀ t ∈ ρ, t.still) (m : Nat) : Ok K B G F H (σ ++ List.replicate m none) (ρ ++ List.replicate m .un) := by
  obtain ⟨fp, k⟩ := k
  refine ⟨fp, k.g, k.f, k.gf, k.bx, by simp [k.len], fun i t hi => ?_, k.dj, k.out, fun i a h => by have := k.up i a h; simp; omega⟩
  by_cases h : i < ρ.length
  · rw [List.getElem?_append_left h] at hi
    rw [List.getElem?_append_left (by rw [k.len]; exact h)]
    exact (k.own i t hi).slots (st t (List.mem_of_getElem? hi))
  · rw [List.getElem?_append_right (by omega)] at hi
    rw [List.getElem?_replicate] at hi
    split at hi
    · cases hi
      exact fun a z => h (k.up i a z)
    · cases hi
/-- at a def's end: the arguments as they were handed in, and the result -/
theorem Ok.leave {vs : List V} {ts : List T} {v : V} {r : T} (k : Ok K B G F H (vs.map some) ts) (ha : ∀ t ∈ ts, t.arg) (k' : Ok K B G F' H' (σ ++ [some v]) (ρ ++ [r])) (kp : keeps ts ρ) (st : r.still) (s : Same F F') :
    Ok K B G F' H' (vs.map some ++ [some v]) (ts ++ [r]) := by
  have hl' : σ.length = ρ.length := by have := k'.len; simpa using this
  obtain ⟨fp, k⟩ := k
  obtain ⟨fq, k'⟩ := k'
  have hlt : ∀ i u, ts[i]? = some (.bx u) → i < ρ.length := fun i u h => (List.getElem?_eq_some_iff.mp (kp i u h)).1
  refine ⟨fun i => open Classical in if i = ts.length then fq ρ.length else if ∃ u, ts[i]? = some (.bx u) then fq i else fun _ => False, k'.g, k'.f, k'.gf, k'.bx, by have := k.len; simpa using this, fun i t hi => ?_, fun i j a h1 h2 => ?_, fun i a h1 => ?_, fun i a h1 => ?_⟩
  · by_cases e : i = ts.length
    · subst e
      simp only [if_true]
      rw [getA_eq] at hi
      cases hi
      rw [← k.len, getLast_append]
      have o := k'.own ρ.length _ getA_eq
      rw [← hl', getLast_append] at o
      rw [← hl']
      exact o.slots st
    · simp only [if_neg e]
      have hi2 : i < ts.length := by
        have := (List.getElem?_eq_some_iff.mp hi).1
        simp at this
        omega
      rw [getA_lt hi2] at hi
      rw [getA_lt (by rw [k.len]; exact hi2)]
      have o := k.own i t hi
      have hta := ha t (List.mem_of_getElem? hi)
      cases t with
      | d x =>
        rw [if_neg (by rw [hi]; rintro ⟨u, z⟩; cases z)]
        obtain ⟨_, w, e1, rp⟩ := o
        exact ⟨fun _ z => z, w, e1, rp.mono s⟩
      | raw w =>
        rw [if_neg (by rw [hi]; rintro ⟨u, z⟩; cases z)]
        exact ⟨fun _ z => z, o.2⟩
      | bx u =>
        rw [if_pos ⟨u, hi⟩]
        have o' := k'.own i (.bx u) (by rw [getA_lt (hlt i u hi)]; exact kp i u hi)
        exact ⟨o.1, o'.2⟩
      | un => exact hta.elim
      | l ds => exact hta.elim
      | k ds => exact hta.elim
      | kt ds => exact hta.elim
      | al i => exact hta.elim
  · by_cases e : i = ts.length <;> by_cases e' : j = ts.length <;> simp only [e, e', if_true, if_false] at h1 h2
    · omega
    · split at h2
      · rename_i hu
        obtain ⟨u, hu⟩ := hu
        have := k'.dj _ _ a h1 h2
        have := hlt j u hu
        omega
      · exact h2.elim
    · split at h1
      · rename_i hu
        obtain ⟨u, hu⟩ := hu
        have := k'.dj _ _ a h1 h2
        have := hlt i u hu
        omega
      · exact h1.elim
    · split at h1
      · split at h2
        · exact k'.dj _ _ a h1 h2
        · exact h2.elim
      · exact h1.elim
  · by_cases e : i = ts.length <;> simp only [e, if_true, if_false] at h1
    · exact k'.out _ a h1
    · split at h1
      · exact k'.out _ a h1
      · exact h1.elim
  · by_cases e : i = ts.length <;> simp only [e, if_true, if_false] at h1
    · simp [e]
    · split at h1
      · rename_i hu
        obtain ⟨u, hu⟩ := hu
        have := (List.getElem?_eq_some_iff.mp hu).1
        simp
        omega
      · exact h1.elim
end

section
variable {P : Program} {w : World} {K : PySem.W.Frag} {mg : Str → Option Value} {base : Heap}
def endsP (ts : List T) (P : T → Prop) : PEnds where
  nx := fun ρ => P (.d .none) ∧ keeps ts ρ
  rt := fun r ρ => (P r ∧ r.still) ∧ keeps ts ρ
/-- THE RULE for a def, by data -/
theorem fnP {B : Box} {x qual : Str} {st : Stmt} {f : Addr} {fd : FuncData} {N ps : List Str} {k : Nat} {φ : List T → (T → Prop) → Prop} (Fn : Fun K x qual st f fd) (S : FnScope N ps (defScope st))
    (hbody : ∀ (cdv : Value) (A : Around) (outer : List PySem.Env) (s : Shared) (H : Hp) (E : XK), RoomG k (A.deeper (PyProof.Rows.envOfC qual (defScope st) s.heap.objs.size f cdv)) → ∀ (ts : List T) (Pq : T → Prop), ts.length = ps.length → φ ts Pq →
      ∃ t : QS, PSs (cxOf CX0 P w K mg base N qual (defScope st) f cdv A outer s H E).nox (defBody st) (liftS K B t) ∧ t (endsP ts Pq) (startP N ts)) : FnG P w K mg base CX0 (k + 1) f fd ps (spP K B ps.length φ) := by
  refine fnG_mk Fn S spP_len fun cdv A outer s H vs Q E hr ⟨G, F, ts, Pq, hl, ha, ok, hφ, q⟩ => ?_
  obtain ⟨t, h, ht⟩ := hbody cdv A outer s H E hr ts Pq hl hφ
  have hvl : vs.length = ts.length := by have := ok.len; simpa using this
  have st0 : ∀ t ∈ ts, t.still := fun t ht => T.arg_still (ha t ht)
  refine ⟨_, h, G, F, startP N ts, endsP ts Pq, ⟨fun t ht => ?_, ?_⟩, ht, ⟨fun σ' H' ρ' F' ⟨p, kp⟩ k' s => ?_, fun r v σ' H' ρ' F' ⟨⟨p, sr⟩, kp⟩ fl s => ?_, fun _ _ _ _ z => z.elim, fun _ _ _ _ z => z.elim⟩⟩
  · rcases List.mem_append.mp ht with z | z
    · exact st0 t z
    · rw [List.eq_of_mem_replicate z]
      trivial
  · unfold L2.start startP
    rw [hvl]
    exact ok.pad st0 _
  · exact q _ .non H' F' p trivial (ok.leave ha (k'.2.pushD .non) kp trivial s) s
  · exact q _ v H' F' p sr (ok.leave ha fl.ok kp sr s) s
end

/-! ### calls -/
section
variable {K : PySem.W.Frag} {B : Box}
/-- what a callee finds of another's -/
noncomputable def restOf (F H : Hp) (S : Addr → Prop) : Hp := open Classical in fun a => if F a = none ∧ ¬ S a then H a else none
theorem restOf_in {F H : Hp} {S : Addr → Prop} {a : Addr} (h : F a = none) (h2 : ¬ S a) : restOf F H S a = H a := by unfold restOf; rw [if_pos ⟨h, h2⟩]
theorem of_restOf {F H : Hp} {S : Addr → Prop} {a : Addr} {o : HO} (h : restOf F H S a = some o) : F a = none ∧ ¬ S a ∧ H a = some o := by
  unfold restOf at h
  split at h
  · rename_i z; exact ⟨z.1, z.2, h⟩
  · cases h
/-- data and raw values handed in -/
def wsT : List W → Option (List T)
  | [] => some []
  | .d x :: r => (wsT r).map (.d x :: ·)
  | .raw v :: r => (wsT r).map (.raw v :: ·)
  | _ :: _ => none
theorem wsT_own {F : Hp} {σ : St} : ∀ {ws : List W} {vs : List V} {ts : List T}, WsOk K F σ ws vs → wsT ws = some ts → vs.length = ts.length ∧ (∀ t ∈ ts, t.arg) ∧ ∀ (H : Hp) (σ' : St) (i : Nat) (t : T), ts[i]? = some t → Own K B H F σ' t ((vs.map some)[i]?.join) (fun _ => False)
  | _, _, ts, .nil, e => by
    obtain rfl : [] = ts := Option.some.inj e
    exact ⟨rfl, (fun _ z => nomatch z), fun H σ' i t h => by simp at h⟩
  | .d x :: ws, _, ts, .cons h r, e => by
    cases q : wsT ws with
    | none => simp [wsT, q] at e
    | some es =>
      simp [wsT, q] at e
      subst e
      obtain ⟨h1, h2, h3⟩ := wsT_own r q
      refine ⟨by simp [h1], fun t ht => ?_, fun H σ' i t hi => ?_⟩
      · rcases List.mem_cons.mp ht with rfl | z
        · trivial
        · exact h2 t z
      · cases i with
        | zero =>
          simp at hi
          subst hi
          exact ⟨fun _ z => z, _, rfl, h⟩
        | succ i => exact h3 H σ' i t (by simpa using hi)
  | .raw u :: ws, _, ts, .cons h r, e => by
    cases q : wsT ws with
    | none => simp [wsT, q] at e
    | some es =>
      simp [wsT, q] at e
      subst e
      obtain ⟨h1, h2, h3⟩ := wsT_own r q
      refine ⟨by simp [h1], fun t ht => ?_, fun H σ' i t hi => ?_⟩
      · rcases List.mem_cons.mp ht with rfl | z
        · trivial
        · exact h2 t z
      · cases i with
        | zero =>
          simp at hi
          subst hi
          have h : _ = u := h
          subst h
          exact ⟨fun _ z => z, rfl⟩
        | succ i => exact h3 H σ' i t (by simpa using hi)
  | .al _ :: ws, _, ts, .cons h r, e => nomatch e
  | .no :: ws, _, ts, .cons h r, e => nomatch e
/-- behind a call: what the caller has -/
theorem OkW.back {G F F' H H' : Hp} {σ τ : St} {ρ θ : Env} {fp fq : Nat → Addr → Prop} {v : V} {r : T} {bi : Option (Nat × Addr)} (k : OkW K B G F H σ ρ fp)
    (hb : ∀ i u, bi = some (i, u) → ρ[i]? = some (.bx u))
    (k' : OkW K B.bare (restOf F H fun a => ∃ i u, bi = some (i, u) ∧ fp i a) F' H' (τ ++ [some v]) (θ ++ [r]) fq) (hθ : ∀ i u, bi = some (i, u) → (θ ++ [r])[0]? = some (.bx u) ∧ 0 < θ.length) (st : r.still) (s : Same F F') :
    OkW K B G F' H' (σ ++ [some v]) (ρ ++ [r]) (fun j => open Classical in if j = ρ.length then fq θ.length else if ∃ u, bi = some (j, u) then fq 0 else fp j) := by
  have hl : τ.length = θ.length := by have := k'.len; simpa using this
  have rest : ∀ a, F a = none → (∀ i u, bi = some (i, u) → ¬ fp i a) → H a ≠ none → F' a = none ∧ H' a = H a ∧ ∀ j, ¬ fq j a := fun a h1 h2 h3 => by
    have e : restOf F H (fun a => ∃ i u, bi = some (i, u) ∧ fp i a) a = H a := restOf_in h1 fun ⟨i, u, z, w⟩ => h2 i u z w
    cases q : H a with
    | none => exact (h3 q).elim
    | some o =>
      rw [q] at e
      refine ⟨k'.gf a o e, k'.g a o e, fun j z => ?_⟩
      have := (k'.out j a z).1
      rw [e] at this
      cases this
  have slot : ∀ j a, (∀ u, bi ≠ some (j, u)) → fp j a → F' a = none ∧ H' a = H a ∧ ∀ j', ¬ fq j' a := fun j a hj ha => by
    refine rest a (k.out j a ha).2 (fun i u z w => ?_) (k.live j a ha)
    have := k.dj i j a w ha
    subst this
    exact hj u z
  have gg : ∀ a o, G a = some o → F' a = none ∧ H' a = some o ∧ ∀ j', ¬ fq j' a := fun a o ha => by
    have h := rest a (k.gf a o ha) (fun i u z w => by
      have := (k.out i a w).1
      rw [ha] at this
      cases this) (by rw [k.g a o ha]; exact fun z => nomatch z)
    exact ⟨h.1, h.2.1.trans (k.g a o ha), h.2.2⟩
  refine ⟨fun a o h => (gg a o h).2.1, k'.f, fun a o h => (gg a o h).1, B.okF k.bx s, by simp [k.len], fun j t hj => ?_, fun j j' a h1 h2 => ?_, fun j a h1 => ?_, fun j a h1 => ?_⟩
  · by_cases e : j = ρ.length
    · subst e
      simp only [if_true]
      rw [getA_eq] at hj
      cases hj
      have o := k'.own θ.length _ getA_eq
      rw [← hl, getLast_append] at o
      rw [← k.len, getLast_append, ← hl]
      exact o.slots st
    · simp only [if_neg e]
      have hlt : j < ρ.length := by
        have := (List.getElem?_eq_some_iff.mp hj).1
        simp at this
        omega
      rw [getA_lt hlt] at hj
      rw [getA_lt (by rw [k.len]; exact hlt)]
      by_cases hbj : ∃ u, bi = some (j, u)
      · rw [if_pos hbj]
        obtain ⟨u, hu⟩ := hbj
        have e2 := hb j u hu
        rw [hj] at e2
        cases e2
        have o := k.own j _ hj
        obtain ⟨z1, z2⟩ := hθ j u hu
        have o' := k'.own 0 _ z1
        exact ⟨o.1, o'.2⟩
      · rw [if_neg hbj]
        have hne : ∀ u, bi ≠ some (j, u) := fun u z => hbj ⟨u, z⟩
        exact ((k.own j t hj).frame (fun a ha => (slot j a hne ha).2.1) s).more
  · by_cases e : j = ρ.length <;> by_cases e' : j' = ρ.length <;> simp only [e, e', if_true, if_false] at h1 h2
    · omega
    · split at h2
      · rename_i hbj
        obtain ⟨u, hu⟩ := hbj
        have := k'.dj _ _ a h1 h2
        have := (hθ _ u hu).2
        omega
      · rename_i hbj
        exact ((slot j' a (fun u z => hbj ⟨u, z⟩) h2).2.2 _ h1).elim
    · split at h1
      · rename_i hbj
        obtain ⟨u, hu⟩ := hbj
        have := k'.dj _ _ a h1 h2
        have := (hθ _ u hu).2
        omega
      · rename_i hbj
        exact ((slot j a (fun u z => hbj ⟨u, z⟩) h1).2.2 _ h2).elim
    · split at h1
      · rename_i hbj
        split at h2
        · rename_i hbj'
          obtain ⟨u, hu⟩ := hbj
          obtain ⟨u', hu'⟩ := hbj'
          rw [hu] at hu'
          cases hu'
          rfl
        · rename_i hbj'
          exact ((slot j' a (fun u z => hbj' ⟨u, z⟩) h2).2.2 _ h1).elim
      · rename_i hbj
        split at h2
        · exact ((slot j a (fun u z => hbj ⟨u, z⟩) h1).2.2 _ h2).elim
        · exact k.dj _ _ a h1 h2
  · have out' : ∀ x, fq x a → G a = none := fun x z => by
      cases q : G a with
      | none => rfl
      | some o => exact ((gg a o q).2.2 _ z).elim
    by_cases e : j = ρ.length <;> simp only [e, if_true, if_false] at h1
    · exact ⟨out' _ h1, (k'.out _ a h1).2⟩
    · split at h1
      · exact ⟨out' _ h1, (k'.out _ a h1).2⟩
      · rename_i hbj
        exact ⟨(k.out j a h1).1, (slot j a (fun u z => hbj ⟨u, z⟩) h1).1⟩
  · by_cases e : j = ρ.length <;> simp only [e, if_true, if_false] at h1
    · simp [e]
    · split at h1
      · rename_i hbj
        obtain ⟨u, hu⟩ := hbj
        have := (List.getElem?_eq_some_iff.mp (hb j u hu)).1
        simp
        omega
      · have := k.up j a h1
        simp
        omega
def qCallF (φ : List T → (T → Prop) → Prop) (ta : QA) (ρ : Env) (Q : T → Env → Prop) : Prop := ta ρ fun ws ρ1 => match wsT ws with
  | some ts => φ ts fun r => Q r ρ1
  | none => False
/-- the first argument is the box of slot i -/
def qCallB (i : Nat) (φ : List T → (T → Prop) → Prop) (ta : QA) (ρ : Env) (Q : T → Env → Prop) : Prop := match ρ[i]? with
  | some (.bx u) => ta ρ fun ws ρ1 => ρ1[i]? = some (.bx u) ∧ match wsT ws with
    | some ts => φ (.bx u :: ts) fun r => Q r ρ1
    | none => False
  | _ => False
theorem wsT_len : ∀ {ws : List W} {ts : List T}, wsT ws = some ts → ts.length = ws.length
  | [], ts, e => by
    obtain rfl : [] = ts := Option.some.inj e
    rfl
  | .d x :: ws, ts, e => by
    cases q : wsT ws with
    | none => simp [wsT, q] at e
    | some es =>
      simp [wsT, q] at e
      subst e
      simp [wsT_len q]
  | .raw x :: ws, ts, e => by
    cases q : wsT ws with
    | none => simp [wsT, q] at e
    | some es =>
      simp [wsT, q] at e
      subst e
      simp [wsT_len q]
  | .al _ :: ws, ts, e => nomatch e
  | .no :: ws, ts, e => nomatch e
theorem still_al {r : T} (h : r.still) : ∀ i, r = .al i → i < n := fun i e => by subst e; exact h.elim
theorem lift_callF {n : Nat} {φ : List T → (T → Prop) → Prop} {ta : QA} {E : XK} {σ : St} {H : Hp} {Q : VK} (hn : ∀ ts P, φ ts P → ts.length = n) (h : lift K B (qCallF φ ta) σ H Q) : tCall (spP K B.bare n φ) [] E (liftA K B ta) σ H Q := by
  obtain ⟨G, F, ρ, P, k, h, q⟩ := h
  refine liftA_use k h fun ws ρ1 vs H1 F1 h1 k1 w1 e1 => ?_
  split at h1
  · rename_i ts g
    rw [List.append_nil]
    obtain ⟨hl, ha, ho⟩ := wsT_own (B := B) w1 g
    obtain ⟨fp, kw⟩ := k1.2
    refine ⟨restOf F1 H1 fun a => ∃ i u, (none : Option (Nat × Addr)) = some (i, u) ∧ fp i a, F1, ts, _, hn _ _ h1, ha, ⟨fun _ _ => False, fun a o z => (of_restOf z).2.2, k1.2.f, fun a o z => (of_restOf z).1, True.intro, by simp [hl], fun i t hi => ho _ _ i t hi, fun _ _ _ z => z.elim, fun _ _ z => z.elim, fun _ _ z => z.elim⟩, h1, fun r v H' F' p sr ⟨fq, k'⟩ s => ?_⟩
    exact q r ρ1 v H' F' p ⟨k1.1, ⟨_, kw.back (bi := none) (fun _ _ z => nomatch z) k' (fun _ _ z => nomatch z) sr s⟩, fun i e => by subst e; exact sr.elim⟩ (e1.trans s)
  · exact h1.elim
end
end PL

set_option Elab.async false
set_option linter.all false
set_option maxRecDepth 100000
/-! PL, part 6: calls, methods of one's own lists, several targets, built-ins. -/
namespace PL
open PySem PySem.Spec L2
section
variable {K : PySem.W.Frag} {B : Box}
theorem lift_callB {n i : Nat} {φ : List T → (T → Prop) → Prop} {ta : QA} {E : XK} {σ : St} {H : Hp} {Q : VK} (hn : ∀ ts P, φ ts P → ts.length = n) (h : lift K B (qCallB i φ ta) σ H Q) : tCall (spP K B.bare n φ) [] E (tCons (tVar i) (liftA K B ta)) σ H Q := by
  obtain ⟨G, F, ρ, P, k, h, q⟩ := h
  unfold qCallB at h
  split at h
  · rename_i u hu
    refine ⟨.ref u, k.2.varBx hu, liftA_use k h fun ws ρ1 vs H1 F1 ⟨hu1, h1⟩ k1 w1 e1 => ?_⟩
    split at h1
    · rename_i ts g
      rw [List.append_nil]
      obtain ⟨hl, ha, ho⟩ := wsT_own (B := B) w1 g
      obtain ⟨fp, kw⟩ := k1.2
      have hbo := kw.own i _ hu1
      have hlive := kw.live i
      have hout := kw.out i
      refine ⟨restOf F1 H1 fun a => ∃ i' u', (some (i, u) : Option (Nat × Addr)) = some (i', u') ∧ fp i' a, F1, .bx u :: ts, _, hn _ _ h1, fun t ht => ?_, ⟨fun j => if j = 0 then fp i else fun _ => False, fun a o z => (of_restOf z).2.2, k1.2.f, fun a o z => (of_restOf z).1, True.intro, by simp [hl], fun j t hj => ?_, fun j j' a h1 h2 => ?_, fun j a h1 => ?_, fun j a h1 => ?_⟩, h1, fun r v H' F' p sr ⟨fq, k'⟩ s => ?_⟩
      · rcases List.mem_cons.mp ht with rfl | z
        · trivial
        · exact ha t z
      · cases j with
        | zero =>
          simp only [if_true]
          simp at hj
          subst hj
          exact ⟨rfl, hbo.2⟩
        | succ j =>
          simp only [if_neg (Nat.succ_ne_zero j)]
          exact ho _ _ j t (by simpa using hj)
      · by_cases e : j = 0 <;> by_cases e' : j' = 0 <;> simp only [e, e', if_true, if_false] at h1 h2
        omega
      · by_cases e : j = 0 <;> simp only [e, if_true, if_false] at h1
        refine ⟨?_, (hout a h1).2⟩
        cases z : restOf F1 H1 (fun a => ∃ i' u', (some (i, u) : Option (Nat × Addr)) = some (i', u') ∧ fp i' a) a with
        | none => rfl
        | some o => exact ((of_restOf z).2.1 ⟨i, u, rfl, h1⟩).elim
      · by_cases e : j = 0 <;> simp only [e, if_true, if_false] at h1
        subst e
        simp
      · refine q r ρ1 v H' F' p ⟨k1.1, ⟨_, kw.back (bi := some (i, u)) (fun i' u' z => ?_) k' (fun i' u' z => ?_) sr s⟩, fun i e => by subst e; exact sr.elim⟩ (e1.trans s)
        · cases z
          exact hu1
        · cases z
          exact ⟨rfl, Nat.zero_lt_succ _⟩
    · exact h1.elim
  · exact h.elim
end
section
variable {X : Cx} {B : Box} {pos : Pos} {x : Str} {p : Pos} {e : Expr} {es : List Expr} {ta : QA} {CX : CXT} {kk : Nat} {f : Addr} {fd : FuncData} {ps : List Str} {n : Nat} {φ : List T → (T → Prop) → Prop} {E : XK}
/-- f(..), data and raw values handed in -/
theorem q_callF (F : FnA X.prog X.w X.K X.mg X.base CX X.A f fd ps (spP X.K B.bare n φ)) (hn : ∀ ts P, φ ts P → ts.length = n) (hg : Gl X x) (hm : X.mg x = some (.ref f)) (hk : PySem.W.keepIn X.K (.ref f) = true) (hb : Binds X.K fd ps []) (hx : Passes CX X E) (ha : PA X (e :: es) (liftA X.K B ta))
    (hd : (x == ("__debug__" : Str)) = false := by decide) (he : starEach (e :: es) X.env = (false, eval e X.env) :: starEach es X.env := by rfl) (hpl : (backTo pos (starEach es X.env)).any (·.1) = false := by rfl) :
    PE X (.Call (.Name x p) (e :: es) [] pos) (lift X.K B (qCallF φ ta)) := weakE (pe_callA F hg hm hk hb hx ha hd he hpl) fun _ _ _ => lift_callF hn
theorem q_callU {i : Nat} {y : Str} {py : Pos} (F : FnA X.prog X.w X.K X.mg X.base CX X.A f fd ps (spP X.K B.bare n φ)) (hn : ∀ ts P, φ ts P → ts.length = n) (hg : Gl X x) (hm : X.mg x = some (.ref f)) (hk : PySem.W.keepIn X.K (.ref f) = true) (hb : Binds X.K fd ps []) (hx : Passes CX X E)
    (hv : PE X (.Name y py) (tVar i)) (ha : PA X es (liftA X.K B ta))
    (hd : (x == ("__debug__" : Str)) = false := by decide) (hs : starEach (.Name y py :: es) X.env = (false, eval (.Name y py) X.env) :: starEach es X.env := by rfl) (hpl : (backTo pos (starEach es X.env)).any (·.1) = false := by rfl) :
    PE X (.Call (.Name x p) (.Name y py :: es) [] pos) (lift X.K B (qCallB i φ ta)) := weakE (pe_callA F hg hm hk hb hx (pa_cons hv ha hs) hd hs hpl) fun _ _ _ => lift_callB hn
end

/-! ### methods of a list of one's own, that a name holds -/
section
variable {X : Cx} {B : Box} {x : Str} {xp apos cpos : Pos} {e : Expr} {te : QE}
def qApp (i : Nat) (te : QE) (ρ : Env) (Q : T → Env → Prop) : Prop := match ρ[i]? with
  | some (.l _) => te ρ fun r ρ1 => match r.w, ρ1[i]? with
    | .d d, some (.l ds) => ds.length < sizeLine ∧ Q (.d .none) (ρ1.set i (.l (ds ++ [d])))
    | _, _ => False
  | _ => False
theorem st_set {K : PySem.W.Frag} {G F H : Hp} {σ : St} {ρ : Env} {i : Nat} {a : Addr} {xs : List V} {ds es : List D} (k : St0 K B G F H σ ρ) (h : ρ[i]? = some (.l ds)) (ha : σ[i]? = some (some (.ref a))) (r : RpAll K F xs es) : St0 K B G F (upd H a (.lst xs)) σ (ρ.set i (.l es)) :=
  ⟨mem_set_still k.1 trivial, k.2.setL h ha r⟩
theorem lift_app {K : PySem.W.Frag} {i : Nat} {σ : St} {H : Hp} {Q : VK} (h : lift K B (qApp i te) σ H Q) : tBM K "list" rAppend (tVar i) (tCons (lift K B te) tNil) σ H Q := by
  obtain ⟨G, F, ρ, P, k, h, q⟩ := h
  unfold qApp at h
  split at h
  · rename_i ds0 hi
    obtain ⟨a, xs, ha, hH, r⟩ := k.2.varL hi
    refine ⟨.ref a, ha, .inl ⟨rfl, _, .inl (.inl hH)⟩, lift_use k h fun r ρ1 v H1 F1 h1 k1 w1 e1 => ?_⟩
    split at h1
    · rename_i d ds hw hi1
      obtain ⟨a', ys, ha', hH', r'⟩ := k1.2.varL hi1
      rw [ha] at ha'
      cases ha'
      rw [hw] at w1
      refine ⟨a, ys, v, rfl, rfl, hH', by rw [r'.length]; exact h1.1, ?_⟩
      exact q _ _ _ _ _ h1.2 ((st_set k1 hi1 ha (r'.append (.one w1))).d .non) e1
    · exact h1.elim
  · exact h.elim
theorem q_app (i : Nat) (he : PE X e (lift X.K B te)) (hN : X.N[i]? = some x := by rfl) (hv : Vis X.env.scope x := by first | exact Or.inl rfl | exact Or.inr (Or.inl rfl) | exact Or.inr (Or.inr rfl)) (hd : (x == ("__debug__" : Str)) = false := by decide)
    (hcd : (x == ("__classdict__" : Str)) = false := by decide) (hbase : attributeBase (.Name x xp) "append" X.env (eval (.Name x xp) X.env) = eval (.Name x xp) X.env := by rfl)
    (hfew : ((backTo cpos (starEach [e] X.env)).all (fun x => !x.1) && (backToKw cpos (keywordEach [] X.env)).all (fun x => x.1.isSome) && decide ([e].length + ([] : List Keyword).length + (if ([] : List Keyword).isEmpty then 0 else 1) < 30)) = true := by rfl)
    (hline : (apos.endLine == cpos.line) = true := by rfl) (hs : starEach [e] X.env = (false, eval e X.env) :: starEach [] X.env := by rfl) (hplain : (backTo cpos (starEach [] X.env)).any (·.1) = false := by rfl) :
    PE X (.Call (.Attribute (.Name x xp) "append" apos) [e] [] cpos) (lift X.K B (qApp i te)) :=
  weakE (pe_bm PySem.F.plainAttrs_list PySem.F.slot_list_append PySem.F.type_list_append mt_append (pe_var hN hv hd hcd) (pa_cons he pa_nil hs) hbase hfew hline hs hplain) fun _ _ _ => lift_app
end

/-! ### several targets -/
section
variable {K : PySem.W.Frag} {B : Box} {G F H : Hp} {σ : St} {ρ : Env}
/-- a new object that is another's for a while -/
theorem St0.lendO {p : Addr} (k : St0 K B G F H σ ρ) (h : H p = none) (o : HO) : St0 K B (upd G p o) F (upd H p o) σ ρ := by
  refine ⟨k.1, ?_⟩
  obtain ⟨fp, w⟩ := k.2
  have hf := w.free h
  have w' := w.grow (Same.refl F) (fun b u e => same_upd h (o := o) b u (w.f b u e)) (same_upd h) (fun b u e => .inl e)
  refine ⟨fp, fun b u e => ?_, w'.f, fun b u e => ?_, B.okG w'.bx hf.2, w'.len, w'.own, w'.dj, fun i b hb => ⟨?_, (w'.out i b hb).2⟩, w'.up⟩
  · by_cases hb : b = p
    · subst hb; rw [upd_same] at e ⊢; exact e
    · rw [upd_ne hb] at e; exact w'.g b u e
  · by_cases hb : b = p
    · subst hb; exact hf.1
    · rw [upd_ne hb] at e; exact w'.gf b u e
  · have hne : b ≠ p := fun z => by subst z; exact w.live i b hb h
    rw [upd_ne hne]
    exact (w'.out i b hb).1
theorem Ok.backO {a : Addr} {o o' : HO} {t : T} (k : Ok K B (upd G a o) F H σ ρ) (hg : G a = none) (hk : B.ok G F) (r : Own K B (upd H a o') F σ t (some (.ref a)) fun b => b = a) : Ok K B G F (upd H a o') (σ ++ [some (.ref a)]) (ρ ++ [t]) := by
  obtain ⟨fp, k⟩ := k
  have hF : F a = none := k.gf a _ upd_same
  have na : ∀ i b, fp i b → b ≠ a := fun i b hb z => by
    subst z
    have := (k.out i b hb).1
    rw [upd_same] at this
    cases this
  have k' : OkW K B G F (upd H a o') σ ρ fp := by
    refine ⟨fun b o e => ?_, fun b o e => ?_, fun b o e => ?_, hk, k.len, fun i t hi => (k.own i t hi).frame (fun b hb => upd_ne (na i b hb)) (Same.refl F), k.dj, fun i b hb => ?_, k.up⟩
    · have hb : b ≠ a := fun z => by subst z; rw [hg] at e; cases e
      rw [upd_ne hb]
      exact k.g b o (by rw [upd_ne hb]; exact e)
    · have hb : b ≠ a := fun z => by subst z; rw [hF] at e; cases e
      rw [upd_ne hb]
      exact k.f b o e
    · have hb : b ≠ a := fun z => by subst z; rw [hg] at e; cases e
      exact k.gf b o (by rw [upd_ne hb]; exact e)
    · have := k.out i b hb
      rw [upd_ne (na i b hb)] at this
      exact this
  refine ⟨_, k'.push (fq := fun b => b = a) r (fun b e => ?_) fun i b hb e => na i b hb e⟩
  have e : b = a := e
  subst e
  exact ⟨hg, hF⟩
/-- a value in flight, its object one's own, is another's for a while -/
theorem Ok.parkG {v : V} {t : T} {C : Addr → HO → Prop} (k : Ok K B G F H (σ ++ [some v]) (ρ ++ [t])) (st : ∀ t ∈ ρ, t.still) (ho : ∀ fp, Own K B H F (σ ++ [some v]) t (some v) fp → ∃ a o, v = .ref a ∧ H a = some o ∧ C a o ∧ ∀ b, fp b ↔ b = a) :
    ∃ a o, v = .ref a ∧ H a = some o ∧ C a o ∧ G a = none ∧ Ok K B (upd G a o) F H σ ρ := by
  have hl : σ.length = ρ.length := by have := k.len; simpa using this
  obtain ⟨fp, k⟩ := k
  have own := k.own ρ.length _ getA_eq
  rw [← hl, getLast_append] at own
  obtain ⟨a, o, rfl, e2, hC, hf⟩ := ho _ own
  have hf : ∀ b, fp ρ.length b ↔ b = a := by rw [← hl]; exact hf
  have po := k.out ρ.length a ((hf a).mpr rfl)
  have k1 := k.pop st
  refine ⟨a, o, rfl, e2, hC, po.1, _, fun b u e => ?_, k.f, fun b u e => ?_, B.okG k1.bx po.1, hl, k1.own, k1.dj, fun i b hb => ?_, k1.up⟩
  · by_cases hb : b = a
    · subst hb; rw [upd_same] at e; cases e; exact e2
    · rw [upd_ne hb] at e; exact k.g b u e
  · by_cases hb : b = a
    · subst hb; exact po.2
    · rw [upd_ne hb] at e; exact k.gf b u e
  · have hne : b ≠ a := fun z => by
      subst z
      by_cases hi : i < ρ.length
      · simp only [if_pos hi] at hb
        have := k.dj i ρ.length b hb ((hf b).mpr rfl)
        omega
      · simp only [if_neg hi] at hb
    rw [upd_ne hne]
    exact k1.out i b hb
end
/-- values in flight, lists of one's own parked -/
def FlB (K : PySem.W.Frag) (B : Box) (F H : Hp) (σ : St) (ρ : Env) : List V → List T → Hp → Prop
  | [], [], G => St0 K B G F H σ ρ
  | v :: vs, .d x :: rs, G => Rp K F v x ∧ FlB K B F H σ ρ vs rs G
  | v :: vs, .raw u :: rs, G => v = u ∧ FlB K B F H σ ρ vs rs G
  | v :: vs, .l ds :: rs, G => ∃ a xs, v = .ref a ∧ (G a = none ∧ B.ok G F) ∧ RpAll K F xs ds ∧ FlB K B F H σ ρ vs rs (upd G a (.lst xs))
  | v :: vs, .k kds :: rs, G => ∃ a kvs, v = .ref a ∧ (G a = none ∧ B.ok G F) ∧ RpKv K F kvs kds ∧ FlB K B F H σ ρ vs rs (upd G a (.dK kvs))
  | v :: vs, .kt kds :: rs, G => ∃ a kvs, v = .ref a ∧ (G a = none ∧ B.ok G F) ∧ RpKt K F kvs kds ∧ FlB K B F H σ ρ vs rs (upd G a (.dT kvs))
  | _, _, _ => False
abbrev QB := Env → (List T → Env → Prop) → Prop
def liftB (K : PySem.W.Frag) (B : Box) (t : QB) : TA := fun σ H Q => ∃ G F ρ P, St0 K B G F H σ ρ ∧ t ρ P ∧ ∀ rs ρ' vs H' F', P rs ρ' → FlB K B F' H' σ ρ' vs rs G → Same F F' → Q vs H'
def bNil (ρ : Env) (Q : List T → Env → Prop) : Prop := Q [] ρ
def bCons (te : QE) (t : QB) (ρ : Env) (Q : List T → Env → Prop) : Prop := te ρ fun r ρ1 => match r with
  | .d x => t ρ1 fun rs ρ2 => Q (.d x :: rs) ρ2
  | .raw x => t ρ1 fun rs ρ2 => Q (.raw x :: rs) ρ2
  | .l ds => t ρ1 fun rs ρ2 => Q (.l ds :: rs) ρ2
  | .k ds => t ρ1 fun rs ρ2 => Q (.k ds :: rs) ρ2
  | .kt ds => t ρ1 fun rs ρ2 => Q (.kt ds :: rs) ρ2
  | _ => False
def setAll {α : Type} : List α → List Nat → List α → List α
  | l, [], _ => l
  | l, _ :: _, [] => l
  | l, i :: is, x :: xs => setAll (l.set i x) is xs
section
variable {K : PySem.W.Frag} {B : Box} {G F H : Hp} {σ : St} {ρ : Env}
theorem setAll_len {α : Type} : ∀ {l : List α} {is : List Nat} {xs : List α}, (setAll l is xs).length = l.length
  | l, i :: is, x :: xs => by unfold setAll; rw [setAll_len, List.length_set]
  | l, [], _ => by simp [setAll]
  | l, _ :: _, [] => rfl
theorem setAll_set {α : Type} {i : Nat} {x : α} : ∀ {l : List α} {is : List Nat} {xs : List α}, i ∉ is → (setAll l is xs).set i x = setAll (l.set i x) is xs
  | l, j :: is, y :: ys, h => by
    unfold setAll
    rw [setAll_set fun z => h (List.mem_cons_of_mem _ z), List.set_comm _ _ (fun e => h (by rw [← e]; exact List.mem_cons_self))]
  | l, [], _, _ => by simp [setAll]
  | l, _ :: _, [], _ => rfl
theorem FlB.store : ∀ {vs : List V} {rs : List T} {is : List Nat} {G : Hp}, FlB K B F H σ ρ vs rs G → is.Nodup → is.length = rs.length → (∀ i ∈ is, i < ρ.length) → St0 K B G F H (setAll σ is (vs.map some)) (setAll ρ is rs)
  | [], [], [], G, k, _, _, _ => k
  | v :: vs, .d x :: rs, i :: is, G, k, nd, hl, hi => by
    obtain ⟨r, k⟩ := k
    have hn := List.nodup_cons.mp nd
    have ih := FlB.store k hn.2 (by simpa using hl) fun j hj => hi j (List.mem_cons_of_mem _ hj)
    have := (ih.d r).set (i := i) (by rw [setAll_len]; exact hi i List.mem_cons_self) trivial
    rw [setAll_set hn.1, setAll_set hn.1] at this
    exact this
  | v :: vs, .raw x :: rs, i :: is, G, k, nd, hl, hi => by
    obtain ⟨r, k⟩ := k
    subst r
    have hn := List.nodup_cons.mp nd
    have ih := FlB.store k hn.2 (by simpa using hl) fun j hj => hi j (List.mem_cons_of_mem _ hj)
    have := (ih.raw (v := v)).set (i := i) (by rw [setAll_len]; exact hi i List.mem_cons_self) trivial
    rw [setAll_set hn.1, setAll_set hn.1] at this
    exact this
  | v :: vs, .l ds :: rs, i :: is, G, k, nd, hl, hi => by
    obtain ⟨a, xs, rfl, hG, r, k⟩ := k
    have hn := List.nodup_cons.mp nd
    have ih := FlB.store k hn.2 (by simpa using hl) fun j hj => hi j (List.mem_cons_of_mem _ hj)
    have hH : H a = some (.lst xs) := ih.2.g a _ upd_same
    have k3 := ih.2.unpark hG.1 hG.2 r
    rw [upd_id hH] at k3
    have fl : Fl K B G F H _ _ (.ref a) (.l ds) := ⟨ih.1, k3, fun j z => nomatch z⟩
    have := fl.set (i := i) (by rw [setAll_len]; exact hi i List.mem_cons_self) trivial
    rw [setAll_set hn.1, setAll_set hn.1] at this
    exact this
  | v :: vs, .k ds :: rs, i :: is, G, k, nd, hl, hi => by
    obtain ⟨a, xs, rfl, hG, r, k⟩ := k
    have hn := List.nodup_cons.mp nd
    have ih := FlB.store k hn.2 (by simpa using hl) fun j hj => hi j (List.mem_cons_of_mem _ hj)
    have hH : H a = some (.dK xs) := ih.2.g a _ upd_same
    have k3 := ih.2.backO (o' := .dK xs) (t := .k ds) hG.1 hG.2 ⟨a, xs, rfl, upd_same, r, fun b => Iff.rfl⟩
    rw [upd_id hH] at k3
    have fl : Fl K B G F H _ _ (.ref a) (.k ds) := ⟨ih.1, k3, fun j z => nomatch z⟩
    have := fl.set (i := i) (by rw [setAll_len]; exact hi i List.mem_cons_self) trivial
    rw [setAll_set hn.1, setAll_set hn.1] at this
    exact this
  | v :: vs, .kt ds :: rs, i :: is, G, k, nd, hl, hi => by
    obtain ⟨a, xs, rfl, hG, r, k⟩ := k
    have hn := List.nodup_cons.mp nd
    have ih := FlB.store k hn.2 (by simpa using hl) fun j hj => hi j (List.mem_cons_of_mem _ hj)
    have hH : H a = some (.dT xs) := ih.2.g a _ upd_same
    have k3 := ih.2.backO (o' := .dT xs) (t := .kt ds) hG.1 hG.2 ⟨a, xs, rfl, upd_same, r, fun b => Iff.rfl⟩
    rw [upd_id hH] at k3
    have fl : Fl K B G F H _ _ (.ref a) (.kt ds) := ⟨ih.1, k3, fun j z => nomatch z⟩
    have := fl.set (i := i) (by rw [setAll_len]; exact hi i List.mem_cons_self) trivial
    rw [setAll_set hn.1, setAll_set hn.1] at this
    exact this
theorem FlB.len : ∀ {vs : List V} {rs : List T} {G : Hp}, FlB K B F H σ ρ vs rs G → vs.length = rs.length
  | [], [], G, k => rfl
  | v :: vs, .d x :: rs, G, k => congrArg (· + 1) (FlB.len k.2)
  | v :: vs, .raw x :: rs, G, k => congrArg (· + 1) (FlB.len k.2)
  | v :: vs, .l ds :: rs, G, ⟨a, xs, _, _, _, k⟩ => congrArg (· + 1) (FlB.len k)
  | v :: vs, .k ds :: rs, G, ⟨a, xs, _, _, _, k⟩ => congrArg (· + 1) (FlB.len k)
  | v :: vs, .kt ds :: rs, G, ⟨a, xs, _, _, _, k⟩ => congrArg (· + 1) (FlB.len k)
/-- a new object that nobody looks at -/
theorem St0.dust {p : Addr} {o : HO} (k : St0 K B G F H σ ρ) (h : H p = none) : St0 K B G F (upd H p o) σ ρ := by
  refine ⟨k.1, ?_⟩
  obtain ⟨fp, w⟩ := k.2
  exact ⟨fp, w.grow (Same.refl F) (fun b u e => same_upd h b u (w.f b u e)) (same_upd h) (fun b u e => .inl e)⟩
theorem FlB.dust {p : Addr} {o : HO} (h : H p = none) : ∀ {vs : List V} {rs : List T} {G : Hp}, FlB K B F H σ ρ vs rs G → FlB K B F (upd H p o) σ ρ vs rs G
  | [], [], G, k => St0.dust k h
  | v :: vs, .d x :: rs, G, k => ⟨k.1, FlB.dust h k.2⟩
  | v :: vs, .raw x :: rs, G, k => ⟨k.1, FlB.dust h k.2⟩
  | v :: vs, .l ds :: rs, G, ⟨a, xs, e1, e2, r, k⟩ => ⟨a, xs, e1, e2, r, FlB.dust h k⟩
  | v :: vs, .k ds :: rs, G, ⟨a, xs, e1, e2, r, k⟩ => ⟨a, xs, e1, e2, r, FlB.dust h k⟩
  | v :: vs, .kt ds :: rs, G, ⟨a, xs, e1, e2, r, k⟩ => ⟨a, xs, e1, e2, r, FlB.dust h k⟩
end
section
variable {X : Cx} {B : Box} {e : Expr} {es : List Expr} {te : QE} {t : QB} {pos : Pos}
theorem b_nil : PA X [] (liftB X.K B bNil) := weakA pa_nil fun σ H Q ⟨G, F, ρ, P, k, h, q⟩ => q [] ρ [] H F h k (Same.refl F)
theorem b_cons (ha : PE X e (lift X.K B te)) (hr : PA X es (liftB X.K B t)) (hs : starEach (e :: es) X.env = (false, eval e X.env) :: starEach es X.env := by rfl) : PA X (e :: es) (liftB X.K B (bCons te t)) :=
  weakA (pa_cons ha hr hs) fun σ H Q ⟨G, F, ρ, P, k, h, q⟩ => ⟨G, F, ρ, _, k, h, fun r ρ1 v H1 F1 h1 fl e1 => by
    split at h1
    · have rp := fl_d fl
      exact ⟨G, F1, ρ1, _, fl.pop, h1, fun rs ρ2 vs H2 F2 h2 k2 e2 => q _ ρ2 (v :: vs) H2 F2 h2 ⟨rp.mono e2, k2⟩ (e1.trans e2)⟩
    · rename_i u
      have hl : σ.length = ρ1.length := by have := fl.ok.len; simpa using this
      have rp := fl.ok.varRaw (i := ρ1.length) (v := u) getA_eq
      rw [getLastA hl.symm] at rp
      cases rp
      exact ⟨G, F1, ρ1, _, fl.pop, h1, fun rs ρ2 vs H2 F2 h2 k2 e2 => q _ ρ2 (_ :: vs) H2 F2 h2 ⟨rfl, k2⟩ (e1.trans e2)⟩
    · rename_i ds
      have hl : σ.length = ρ1.length := by have := fl.ok.len; simpa using this
      obtain ⟨a, xs, ea, _, _⟩ := fl.ok.varL (i := ρ1.length) (ds := ds) getA_eq
      rw [getLastA hl.symm] at ea
      cases ea
      obtain ⟨xs, hH, rp, hG, k1⟩ := fl.ok.park fl.still
      exact ⟨_, F1, ρ1, _, ⟨fl.still, k1⟩, h1, fun rs ρ2 vs H2 F2 h2 k2 e2 => q _ ρ2 (.ref a :: vs) H2 F2 h2 ⟨a, xs, rfl, ⟨hG, B.okF fl.ok.bx e2⟩, rp.mono e2, k2⟩ (e1.trans e2)⟩
    · rename_i ds
      obtain ⟨a, o, rfl, hH, ⟨kvs, rfl, rp⟩, hG, k1⟩ := fl.ok.parkG (C := fun _ o => ∃ kvs, o = .dK kvs ∧ RpKv X.K F1 kvs ds) fl.still fun fp ow => by
        obtain ⟨a, kvs, e1, e2, r, q⟩ := ow
        cases e1
        exact ⟨a, _, rfl, e2, ⟨kvs, rfl, r⟩, q⟩
      exact ⟨_, F1, ρ1, _, ⟨fl.still, k1⟩, h1, fun rs ρ2 vs H2 F2 h2 k2 e2 => q _ ρ2 (.ref a :: vs) H2 F2 h2 ⟨a, kvs, rfl, ⟨hG, B.okF fl.ok.bx e2⟩, rp.mono e2, k2⟩ (e1.trans e2)⟩
    · rename_i ds
      obtain ⟨a, o, rfl, hH, ⟨kvs, rfl, rp⟩, hG, k1⟩ := fl.ok.parkG (C := fun _ o => ∃ kvs, o = .dT kvs ∧ RpKt X.K F1 kvs ds) fl.still fun fp ow => by
        obtain ⟨a, kvs, e1, e2, r, q⟩ := ow
        cases e1
        exact ⟨a, _, rfl, e2, ⟨kvs, rfl, r⟩, q⟩
      exact ⟨_, F1, ρ1, _, ⟨fl.still, k1⟩, h1, fun rs ρ2 vs H2 F2 h2 k2 e2 => q _ ρ2 (.ref a :: vs) H2 F2 h2 ⟨a, kvs, rfl, ⟨hG, B.okF fl.ok.bx e2⟩, rp.mono e2, k2⟩ (e1.trans e2)⟩
    · exact h1.elim⟩
/-- names = values, side by side -/
def sPar (is : List Nat) (t : QB) (DP : PEnds) (ρ : Env) : Prop := t ρ fun rs ρ1 => rs.length = is.length ∧ (∀ i ∈ is, i < ρ1.length) ∧ DP.nx (setAll ρ1 is rs)
/-- a target list of plain names, in the order of the slots -/
def gNs : List Nat → TGs
  | [] => gNil
  | i :: is => gCons (gName i) (gNs is)
structure PNs (X : Cx) (ts : List Expr) (is : List Nat) : Prop where
  pg : PGs X ts (gNs is)
  nd : is.Nodup
theorem ns_nil : PNs X [] [] := ⟨pgs_nil, List.nodup_nil⟩
theorem ns_cons {i : Nat} {is : List Nat} {x : Str} {px : Pos} (hN : X.N.Nodup) (h2 : PNs X es is) (hn : i ∉ is := by decide) (hi : X.N[i]? = some x := by rfl) (hx : Loc X.env.scope x := by first | exact Or.inl rfl | exact Or.inr rfl) (hf : X.fn x = true ∨ X.env.scope.names.lookup x = some .local := by first | exact .inl rfl | exact .inr rfl)
    (hs : (assignEach (.Name x px :: es) X.env).map (·.2) = assign (.Name x px) X.env :: (assignEach es X.env).map (·.2) := by rfl) : PNs X (.Name x px :: es) (i :: is) := ⟨pgs_cons (pg_name hN hi hx hf) h2.pg hs, List.nodup_cons.mpr ⟨hn, h2.nd⟩⟩
theorem gNs_run : ∀ {is : List Nat} {vs : List V} {σ : St} {H : Hp} {Q : St → Hp → Prop}, vs.length = is.length → Q (setAll σ is (vs.map some)) H → gNs is vs σ H Q
  | [], [], σ, H, Q, _, q => ⟨rfl, q⟩
  | i :: is, v :: vs, σ, H, Q, hl, q => ⟨v, vs, rfl, gNs_run (is := is) (by simpa using hl) q⟩
theorem s_parT {ts : List Expr} {is : List Nat} {k1 k2 : Nat} {p1 p2 : Pos} (hc : X.calm = true) (hts : PNs X ts is) (ha : PA X es (liftB X.K B t)) (hn : (assignEach ts X.env).length = is.length := by rfl) (hst : (assignEach ts X.env).findIdx? (·.1) = none := by rfl)
    (hs : swapsWithSole [.Tuple ts k1 p1] (.Tuple es k2 p2) pos.line X.env = pure false := by rfl) (hw : swappedStores [.Tuple ts k1 p1] (.Tuple es k2 p2) X.env = pure none := by rfl) (h1 : (assignEach [.Tuple ts k1 p1] X.env).map (·.2) = [assign (.Tuple ts k1 p1) X.env] := by rfl)
    (hz : is.length ≤ 100 := by decide) : PS X (.Assign [.Tuple ts k1 p1] (.Tuple es k2 p2) pos) (liftS X.K B (sPar is t)) :=
  weakS (ps_asg (pe_tup ha) (pg_tup hc hts.pg hn hst) hs hw h1) fun D σ H ⟨G, F, ρ, DP, k, h, en⟩ => ⟨G, F, ρ, _, k, h, fun rs ρ1 vs H1 F1 ⟨h1, h2, h3⟩ fl e1 => by
    have hl := fl.len
    refine ⟨by rw [sizeLine_eq]; omega, fun p hp => ⟨p, vs, rfl, .inl (.inl upd_same), by omega, gNs_run (by omega) ?_⟩⟩
    exact en.nx _ _ _ _ h3 ((fl.dust hp).store hts.nd h1.symm h2) e1⟩
/-- two local names, three: stored without the tuple -/
theorem s_par2 {i j : Nat} {x y : Str} {a b : Expr} {px py pt : Pos} {kt k2 pt2} (hc : X.calm = true) (hN : X.N.Nodup) (hij : i ≠ j) (ha : PA X [a, b] (liftB X.K B t))
    (hw : swappedStores [.Tuple [.Name x px, .Name y py] kt pt] (.Tuple [a, b] k2 pt2) X.env = pure (some [x, y])) (hi : X.N[i]? = some x := by rfl) (hj : X.N[j]? = some y := by rfl)
    (hx : X.env.scope.names.lookup x = some .local := by rfl) (hy : X.env.scope.names.lookup y = some .local := by rfl) (hs : swapsWithSole [.Tuple [.Name x px, .Name y py] kt pt] (.Tuple [a, b] k2 pt2) pos.line X.env = pure false := by rfl) :
    PS X (.Assign [.Tuple [.Name x px, .Name y py] kt pt] (.Tuple [a, b] k2 pt2) pos) (liftS X.K B (sPar [i, j] t)) :=
  weakS (ps_par hc hN hi hj hij hx hy ha hw hs) fun D σ H ⟨G, F, ρ, DP, k, h, en⟩ => ⟨G, F, ρ, _, k, h, fun rs ρ1 vs H1 F1 ⟨h1, h2, h3⟩ fl e1 => by
    have hl := fl.len
    have h1 : rs.length = 2 := h1
    match vs, hl.trans h1 with
    | [v, w], _ => exact ⟨v, w, rfl, en.nx _ _ _ _ h3 (fl.store (is := [i, j]) (by simp [hij]) h1.symm h2) e1⟩⟩

theorem s_par3 {i j l : Nat} {x y z : Str} {a b c : Expr} {px py pz pt : Pos} {kt k2 pt2} (hc : X.calm = true) (hN : X.N.Nodup) (hij : i ≠ j) (hil : i ≠ l) (hjl : j ≠ l) (ha : PA X [a, b, c] (liftB X.K B t))
    (hw : swappedStores [.Tuple [.Name x px, .Name y py, .Name z pz] kt pt] (.Tuple [a, b, c] k2 pt2) X.env = pure (some [x, y, z])) (hi : X.N[i]? = some x := by rfl) (hj : X.N[j]? = some y := by rfl) (hl : X.N[l]? = some z := by rfl)
    (hx : X.env.scope.names.lookup x = some .local := by rfl) (hy : X.env.scope.names.lookup y = some .local := by rfl) (hz : X.env.scope.names.lookup z = some .local := by rfl) (hs : swapsWithSole [.Tuple [.Name x px, .Name y py, .Name z pz] kt pt] (.Tuple [a, b, c] k2 pt2) pos.line X.env = pure false := by rfl) :
    PS X (.Assign [.Tuple [.Name x px, .Name y py, .Name z pz] kt pt] (.Tuple [a, b, c] k2 pt2) pos) (liftS X.K B (sPar [i, j, l] t)) :=
  weakS (ps_par3 hc hN hi hj hl hij hil hjl hx hy hz ha hw hs) fun D σ H ⟨G, F, ρ, DP, k, h, en⟩ => ⟨G, F, ρ, _, k, h, fun rs ρ1 vs H1 F1 ⟨h1, h2, h3⟩ fl e1 => by
    have hl := fl.len
    have h1 : rs.length = 3 := h1
    match vs, hl.trans h1 with
    | [v, w, u], _ => exact ⟨v, w, u, rfl, en.nx _ _ _ _ h3 (fl.store (is := [i, j, l]) (by simp [hij, hil, hjl]) h1.symm h2) e1⟩⟩
end
end PL

set_option Elab.async false
set_option linter.all false
set_option maxRecDepth 100000
/-! PL, part 7: enumerate and zip as what a for walks. -/
namespace PLx
open PySem PySem.Spec L2
open AutoSeq1 (wpAny_loadPart')
set_option maxHeartbeats 2000000 in
/-- enumerate(v), v any thing whose iterator is told -/
theorem enumNew {v : Value} {ob : Obj} {Hh : Heap → Prop} (Bg : Begins v ob Hh) :
    Meets (Builtin.«enumerate.__new__» ⟨[.type "enumerate", v], []⟩) (fun _ R st => Hh st.heap ∧
      R (.ok (.ret (.ref (st.heap.push ob).objs.size))) { st with heap := (st.heap.push ob).push { cls := .type "enumerate", data := .fields #[.none, .bool false, .ref st.heap.objs.size, rawInt 0, .none, .none] } }) :=
  .of_wp fun prog w A R st hyp => by
    obtain ⟨hp, gn, dn, tn, on⟩ := st
    obtain ⟨hyp1, hyp2⟩ := hyp
    have subE := sub_enumerate
    have iterv : ∀ {A1 : Around} {E1 : Value → Shared → Prop} {Q1 : Value → Shared → Prop}, Q1 (.ref hp.objs.size) ⟨hp.push ob, gn, dn, tn, on⟩ → wpAny (model prog w) A1 (pyIter v) Q1 E1 ⟨hp, gn, dn, tn, on⟩ :=
      fun q => Bg.iter prog w _ _ ⟨hp, gn, dn, tn, on⟩ _ hyp1 q
    wp_walk using iterv
    refine wpAny_stack_any fun stk => wpAny_pure ?_
    split
    · rename_i c _ _ _ _ _
      cases (c == Value.type "enumerate") <;> (wp_walk using iterv; exact ⟨_, rfl, hyp2⟩)
    · (wp_walk using iterv; exact ⟨_, rfl, hyp2⟩)
theorem enumCall {prog : Program} {w : World} {A : Around} {E : Value → Shared → Prop} {st : Shared} {v : Value} {ob : Obj} {Hh : Heap → Prop} {Q : Value → Shared → Prop} (Bg : Begins v ob Hh) (h1 : Hh st.heap)
    (k : ∀ h', IsEnum h' (st.heap.objs.size + 1) st.heap.objs.size 0 .none → h'.get? st.heap.objs.size = some ob → h'.objs.size = st.heap.objs.size + 2 → (∀ b u, st.heap.get? b = some u → h'.get? b = some u) →
      Q (.ref (st.heap.objs.size + 1)) { st with heap := h' }) : wpAny (model prog w) A (call (.type "enumerate") [v]) Q E st := by
  refine callType_new F.called_enumerate (by decide) (F.typeCall_enumerate_1 _) (F.newCall_enumerate_1 _) (fun z => F.args_object_init_2 z _) F.entry_enumerate_new (enumNew Bg) ⟨h1, ?_⟩
  have sz : (st.heap.push ob).objs.size = st.heap.objs.size + 1 := Heap.size_push ..
  show _ ∧ _
  rw [sz]
  have en : IsEnum ((st.heap.push ob).push { cls := .type "enumerate", data := .fields #[.none, .bool false, .ref st.heap.objs.size, rawInt 0, .none, .none] }) (st.heap.objs.size + 1) st.heap.objs.size 0 .none := by
    have z := Heap.get?_push_size (st.heap.push ob) (o := { cls := .type "enumerate", data := .fields #[.none, .bool false, .ref st.heap.objs.size, rawInt 0, .none, .none] }) rfl
    rw [sz] at z
    exact z
  exact ⟨⟨_, en, rfl⟩, k _ en (Heap.get?_push_of_some _ (Heap.get?_push_size _ Bg.free)) (by rw [Heap.size_push, sz]) fun b u z => Heap.get?_push_of_some _ (Heap.get?_push_of_some _ z)⟩

/-- enumerate of a tuple, as a walk -/
def IteT (K : PySem.W.Frag) (a : Addr) : It where
  go := fun i H => ∃ (xs : List V) (x : V), SqT K H a xs ∧ xs[i]? = some x
  yld := fun i H v H' => ∃ p x, v = .ref p ∧ H p = none ∧ H' = upd H p (.tup [.int (i : Nat), x]) ∧ ∀ xs, SqT K H a xs → xs[i]? = some x
  stop := fun i H => ∃ xs : List V, SqT K H a xs ∧ xs.length ≤ i
theorem turnT {P : Program} {w : World} {K : PySem.W.Frag} {elts : List Expr} {kk : Nat} {tpos : Pos} (a e it : Addr) (hea : e ≠ a) (hia : it ≠ a) :
    Turn P w K (.Tuple elts kk tpos) (IteT K a) [e, it] e (fun i h => (∃ old, IsEnum h e it ((i : Nat) : Int) old) ∧ h.IsTupleIter it a i ∧ e ≠ it) where
  mem := List.mem_cons_self
  obj := fun i h ⟨⟨old, he⟩, ⟨o, ho, hc, hd⟩, _⟩ b hb => by
    rcases List.mem_cons.mp hb with rfl | hb
    · exact ⟨_, he, (fun v q => nomatch q)⟩
    · obtain rfl := List.mem_singleton.mp hb
      exact ⟨o, ho, fun v q => by rw [hd] at q; cases q⟩
  keep := fun i h h' ⟨⟨old, he⟩, hi, hne⟩ k => ⟨⟨old, k e (by simp) _ he⟩, hi.at fun o q => k it (by simp) o q, hne⟩
  item := by
    intro X hP hw hK hc i pins s σ H E I hf st hg
    subst hP hw hK
    obtain ⟨⟨old, he⟩, hit, hne⟩ := st
    obtain ⟨xs, x, hq, hx⟩ := hg
    obtain ⟨its, rv, pt, hz⟩ := I.tuple hq
    obtain ⟨u, hu, ru⟩ := rv.get hx
    have hel : e < s.heap.objs.size := Heap.lt_size he
    have hil : it < s.heap.objs.size := by
      obtain ⟨_, q, _⟩ := hit
      exact Heap.lt_size q
    have hlt : i < its.toArray.size := by
      have := (List.getElem?_eq_some_iff.mp hu).1
      simpa using this
    have Dr := Draws.tuple (prog := X.prog) (w := X.w) (A := X.A.in1) (I.ok.hd hc) it a (Ne.symm hia) its.toArray
    refine wpAny_pyNext_enum_itemD Dr he ⟨hit, (show s.heap.IsTuple a its.toArray from pt)⟩ hlt hne (by simp [hne, hea]) fun y h' tk hy ho hst' hT hsz hk => ?_
    obtain rfl : y = u := by
      have hy : its.toArray[i]? = some y := hy
      rw [show its.toArray[i]? = its[i]? by simp, hu] at hy
      exact (Option.some.inj hy).symm
    refine ⟨_, rfl, wpAny_letOwnedTupleGo_enum (s := { s with heap := h', toks := tk + 1 }) ho fun h'' he' sb => ?_⟩
    have hT2 : h''.get? s.heap.objs.size = some { cls := .type "tuple", data := .seq #[.int i tk, y] } := (sb.2 _ (Nat.ne_of_gt hel)).trans hT
    have nw : ObjOk X.prog X.w (upd H s.heap.objs.size (.tup [.int (i : Nat), x])) h'' s.heap.objs.size (.tup [.int (i : Nat), x]) :=
      ⟨by show 2 ≤ sizeLine; decide, [.int i tk, y], .cons ⟨_, rfl⟩ (.cons ru .nil), ⟨_, hT2, rfl, _, rfl⟩⟩
    have J : Inv X pins σ (upd H s.heap.objs.size (.tup [.int (i : Nat), x])) { s with heap := h'', toks := tk + 1 } :=
      I.turnedNew (ch := [e, it]) (fun b ob hb q => (sb.2 b (fun z => hb (by simp [z]))).trans (hk b ob (fun z => hb (by simp [z])) (fun z => hb (by simp [z])) q)) hf (Nat.le_refl _) nw
    refine ⟨.ref s.heap.objs.size, _, J, rfl, ⟨_, x, rfl, I.hok.fresh (Nat.le_refl _), rfl, fun ys hy => ?_⟩, ⟨⟨y, ?_⟩, hst'.1.at fun o q => (sb.2 it (Ne.symm hne)).trans q, hne⟩, fun b hb => ?_⟩
    · rw [I.tuple_inj hy hq]
      exact hx
    · rw [show ((i + 1 : Nat) : Int) = (i : Int) + 1 by omega]
      exact he'
    · have hb' : b < s.heap.objs.size := by
        rcases List.mem_cons.mp hb with rfl | hb
        · exact hel
        · obtain rfl := List.mem_singleton.mp hb
          exact hil
      rw [upd_ne (Nat.ne_of_lt hb')]
      exact (hf b hb).1
  done := by
    intro X hP hw hK hc i pins s σ H E I hf st hg
    subst hP hw hK
    obtain ⟨⟨old, he⟩, hit, hne⟩ := st
    obtain ⟨xs, hq, hx⟩ := hg
    obtain ⟨its, rv, pt, hz⟩ := I.tuple hq
    obtain ⟨f0, f1, f2, f3, f4, f5⟩ := hf it (by simp)
    have hl := rv.length
    obtain ⟨oi, hoi, hci, hdi⟩ := id hit
    unfold pyNext
    have hT : s.TypeIs (.ref e) "enumerate" := ⟨_, he, rfl⟩
    refine wpAny_bind (wpAny_attempt (wpAny_callSpecial?_slot (name := Str.ofString "__next__") hT F.slot_enumerate_next (wpAny_call_entry F.slot_enumerate_next hT F.entry_enumerate_next ?_ (F.args_enumerate_next_1 _))))
    show wpAny _ _ (field (.ref e) 2 >>= _) _ _ _
    refine wpAny_bind (wpAny_field he rfl (x := .ref it) rfl ?_)
    refine wpAny_bind (wpAny_nextOf_tuple_end (show (Around.in1 _).handled = none from I.ok.hd hc) hit (show s.heap.IsTuple a its.toArray from pt) (by simp; omega) fun h' x he' hx' => ?_)
    obtain ⟨o, ho, hcc⟩ := hx'
    refine wpAny_bind (wpAny_isInstance (T := "StopIteration") (b := true) ⟨o, ho, hcc⟩ isSubtype_stop ?_)
    exact wpAny_pure ⟨rfl, I.turned (t' := s.toks) (fun b o hb q => he' b o hb q) f0 f1 f3 f4 f5⟩
  self := fun A i s Q E ⟨⟨_, he⟩, _⟩ h => wpAny_pyIter_enum he h
def iEnumT (K : PySem.W.Frag) (ta : TA) : TI := fun σ H R => ta σ H fun vs H1 => ∃ a xs, vs = [.ref a] ∧ SqT K H1 a xs ∧ R (IteT K a) H1
theorem pi_enumT {X : Cx} {e : Expr} {ta : TA} {p pos tpos : Pos} {elts : List Expr} {kk : Nat} (hg : Gl X "enumerate") (hm : X.mg "enumerate" = none) (ha : PA X [e] ta) (hs : starEach [e] X.env = [(false, eval e X.env)] := by rfl) :
    PI X (.Tuple elts kk tpos) (.Call (.Name "enumerate" p) [e] [] pos) (iEnumT X.K ta) := by
  refine ⟨fun pins s σ H R I h => PyProof.Rows.Call_ (ld_blt I hg hm PyProof.Rows.boot_enumerate (PyProof.Rows.callWith_type1 (thn (ha.run pos pins s σ H _ I h) fun us s1 ⟨vs, H1, I1, r1, q1⟩ => ?_) hs rfl))⟩
  obtain ⟨a, xs, rfl, hq, q⟩ := q1
  obtain ⟨u, rfl, ru⟩ := vals1 r1
  cases ru
  obtain ⟨its, rv, pt, hz⟩ := I1.tuple hq
  obtain ⟨ot, hot, _⟩ := id pt
  have hlt : a < s1.heap.objs.size := Heap.lt_size hot
  refine enumCall (begins_tuple a its.toArray) (show s1.heap.IsTuple a its.toArray from pt) fun h' he hit hsz hk => wpAny_pyIter_enum he ?_
  have J : Inv X pins σ H1 { s1 with heap := h' } := I1.kept (t' := s1.toks) hk
  refine ⟨s1.heap.objs.size + 1, [s1.heap.objs.size + 1, s1.heap.objs.size], _, _, H1, rfl, J, turnT a (s1.heap.objs.size + 1) s1.heap.objs.size (Nat.ne_of_gt (Nat.lt_succ_of_lt hlt)) (Nat.ne_of_gt hlt), ⟨⟨.none, he⟩, ⟨_, hit, rfl, rfl⟩, Nat.succ_ne_self _⟩, fun b hb => ?_, q⟩
  have hle : s1.heap.objs.size ≤ b := by
    rcases List.mem_cons.mp hb with rfl | hb
    · omega
    · obtain rfl := List.mem_singleton.mp hb
      exact Nat.le_refl _
  exact I1.fpOk hle (I1.hok.fresh hle)
end PLx

set_option Elab.async false
set_option linter.all false
set_option maxRecDepth 100000
/-! PL, part 8: more walks; built-ins and methods by data. -/
namespace PL
open PySem PySem.Spec L2

/-! ### enumerate, zip, a range by steps -/
def enumD (ds : List D) : List D := (List.range ds.length).map fun i => .tuple [.int (i : Nat), ds.getD i .none]
theorem enumD_len (ds : List D) : (enumD ds).length = ds.length := by simp [enumD]
theorem enumD_get {ds : List D} {i : Nat} {d : D} (h : ds[i]? = some d) : (enumD ds)[i]? = some (.tuple [.int (i : Nat), d]) := by
  obtain ⟨hl, e⟩ := List.getElem?_eq_some_iff.mp h
  simp [enumD, hl, e]
def zipD (as bs : List D) : List D := List.zipWith (fun a b => .tuple [a, b]) as bs
theorem zipD_len (as bs : List D) : (zipD as bs).length = min as.length bs.length := by simp [zipD]
theorem zipD_get {as bs : List D} {i : Nat} {a b : D} (h : as[i]? = some a) (h2 : bs[i]? = some b) : (zipD as bs)[i]? = some (.tuple [a, b]) := by
  simp [zipD, List.getElem?_zipWith, h, h2]
theorem wk_pair {K : PySem.W.Frag} {J : It} {n : Nat} {F : Hp} {G : Hp → Prop} {xs ys : Nat → Option V} {ds : List D} (w : Walk J n G (YPair xs ys)) (hG : ∀ H, Same F H → G H) (hn : ds.length = n)
    (hd : ∀ i x y, i < n → xs i = some x → ys i = some y → ∃ d e, ds[i]? = some (.tuple [d, e]) ∧ Rp K F x d ∧ Rp K F y e) : Wk K J F ds := by
  subst hn
  refine ⟨fun i H hi s => w.goes i H hi (hG H s), fun H s => w.stops H (hG H s), fun i H v H' hi s q => ?_⟩
  obtain ⟨p, x, y, e1, e2, e3, e4, e5⟩ := w.yields i H v H' hi (hG H s) q
  obtain ⟨d, e, g, r1, r2⟩ := hd i x y hi e4 e5
  exact ⟨_, g, .inr (.inl ⟨p, _, [d, e], e2, e1, rfl, e3, .cons r1 (.one r2)⟩)⟩
theorem walkT {K : PySem.W.Frag} {a : Addr} {xs : List V} : Walk (PLx.IteT K a) xs.length (fun H => SqT K H a xs) (YPair (fun i => some (.int (i : Nat))) (fun i => xs[i]?)) :=
  ⟨fun i _ hi q => ⟨xs, xs[i], q, by simp [hi]⟩, fun _ q => ⟨xs, q, Nat.le_refl _⟩, fun i H v H' _ q ⟨p, x, e1, e2, e3, e4⟩ => ⟨p, .int (i : Nat), x, e1, e2, e3, rfl, e4 xs q⟩⟩
theorem walkZT {K : PySem.W.Frag} {a b : Addr} {xs ys : List V} : Walk (RZ.ItzT K a b) (min xs.length ys.length) (fun H => SqT K H a xs ∧ SqT K H b ys) (YPair (fun i => xs[i]?) (fun i => ys[i]?)) := by
  refine ⟨fun i _ hi q => ?_, fun _ q => ⟨xs, ys, q.1, q.2, by omega⟩, fun i H v H' _ q ⟨p, x, y, e1, e2, e3, e4, e5⟩ => ⟨p, x, y, e1, e2, e3, e4 xs q.1, e5 ys q.2⟩⟩
  have h1 : i < xs.length := by omega
  have h2 : i < ys.length := by omega
  exact ⟨xs, ys, xs[i], ys[i], q.1, q.2, by simp [h1], by simp [h2]⟩
theorem RpAll.two {K : PySem.W.Frag} {F : Hp} {vs : List V} {d e : D} (r : RpAll K F vs [d, e]) : ∃ x y, vs = [x, y] ∧ Rp K F x d ∧ Rp K F y e := by
  cases r with
  | cons r1 r => cases r with
    | cons r2 r => cases r; exact ⟨_, _, rfl, r1, r2⟩
theorem RpAll.single {K : PySem.W.Frag} {F : Hp} {vs : List V} {d : D} (r : RpAll K F vs [d]) : ∃ x, vs = [x] ∧ Rp K F x d := by
  cases r with
  | cons r1 r => cases r; exact ⟨_, rfl, r1⟩
section
variable {X : Cx} {B : Box} {pos p tpos : Pos} {e e2 c tg : Expr} {ta : QA} {elts : List Expr} {kk : Nat}
def iEL (ta : QA) (ρ : Env) (Q : List D → Env → Prop) : Prop := ta ρ fun ws ρ' => match wsD ws with
  | some [.list ds] => Q (enumD ds) ρ'
  | _ => False
def iET (ta : QA) (ρ : Env) (Q : List D → Env → Prop) : Prop := ta ρ fun ws ρ' => match wsD ws with
  | some [.tuple ds] => Q (enumD ds) ρ'
  | _ => False
theorem i_enumL (hg : Gl X "enumerate") (hm : X.mg "enumerate" = none) (ha : PA X [e] (liftA X.K B ta)) (hs : starEach [e] X.env = [(false, eval e X.env)] := by rfl) :
    PI X (.Tuple elts kk tpos) (.Call (.Name "enumerate" p) [e] [] pos) (liftI X.K B (iEL ta)) :=
  weakI (pi_enum hg hm ha hs) fun σ H R ⟨G, F, ρ, P, k, h, q⟩ => liftA_use k h fun ws ρ' vs H' F' p k' w e => by
    split at p
    · rename_i ds g
      obtain ⟨x, rfl, r⟩ := (wsD_ok w g).single
      cases r with
      | lst hh r =>
        refine ⟨_, _, rfl, .inl (.inl (k'.2.f _ _ hh)), q _ _ _ _ _ p k' e (wk_pair walk_enum (fun H s => .inl (.inl (s _ _ hh))) (by rw [enumD_len, r.length]) fun i x y hi e1 e2 => ?_)⟩
        cases e1
        obtain ⟨d, hd, rd⟩ := r.getV e2
        exact ⟨_, d, enumD_get hd, .int _, rd⟩
    · exact p.elim
theorem i_enumT (hg : Gl X "enumerate") (hm : X.mg "enumerate" = none) (ha : PA X [e] (liftA X.K B ta)) (hs : starEach [e] X.env = [(false, eval e X.env)] := by rfl) :
    PI X (.Tuple elts kk tpos) (.Call (.Name "enumerate" p) [e] [] pos) (liftI X.K B (iET ta)) :=
  weakI (PLx.pi_enumT hg hm ha hs) fun σ H R ⟨G, F, ρ, P, k, h, q⟩ => liftA_use k h fun ws ρ' vs H' F' p k' w e => by
    split at p
    · rename_i ds g
      obtain ⟨x, rfl, r⟩ := (wsD_ok w g).single
      cases r with
      | tup hh r =>
        refine ⟨_, _, rfl, same_t k'.2.f hh, q _ _ _ _ _ p k' e (wk_pair walkT (fun H s => same_t s hh) (by rw [enumD_len, r.length]) fun i x y hi e1 e2 => ?_)⟩
        cases e1
        obtain ⟨d, hd, rd⟩ := r.getV e2
        exact ⟨_, d, enumD_get hd, .int _, rd⟩
    · exact p.elim
def iZ (ta : QA) (ρ : Env) (Q : List D → Env → Prop) : Prop := ta ρ fun ws ρ' => match wsD ws with
  | some [.list as, .list bs] => Q (zipD as bs) ρ'
  | some [.tuple as, .tuple bs] => Q (zipD as bs) ρ'
  | _ => False
theorem i_zip (hg : Gl X "zip") (hm : X.mg "zip" = none) (ha : PA X [e, e2] (liftA X.K B ta)) (hs : starEach [e, e2] X.env = (false, eval e X.env) :: starEach [e2] X.env := by rfl) (hpl : (backTo pos (starEach [e2] X.env)).any (·.1) = false := by rfl) :
    PI X (.Tuple elts kk tpos) (.Call (.Name "zip" p) [e, e2] [] pos) (liftI X.K B (iZ ta)) :=
  weakI (RZ.pi_zipA hg hm ha hs hpl) fun σ H R ⟨G, F, ρ, P, k, h, q⟩ => liftA_use k h fun ws ρ' vs H' F' p k' w e => by
    split at p
    · rename_i as bs g
      obtain ⟨x, y, rfl, r1, r2⟩ := (wsD_ok w g).two
      cases r1 with
      | lst h1 r1 =>
        cases r2 with
        | lst h2 r2 =>
          refine ⟨_, _, _, _, rfl, .inl ⟨.inl (.inl (k'.2.f _ _ h1)), .inl (.inl (k'.2.f _ _ h2)), q _ _ _ _ _ p k' e (wk_pair (walk_zip rfl) (fun H s => ⟨.inl (.inl (s _ _ h1)), .inl (.inl (s _ _ h2))⟩) (by rw [zipD_len, r1.length, r2.length]) fun i x y hi e1 e2 => ?_)⟩⟩
          obtain ⟨d, hd, rd⟩ := r1.getV e1
          obtain ⟨d', hd', rd'⟩ := r2.getV e2
          exact ⟨d, d', zipD_get hd hd', rd, rd'⟩
    · rename_i as bs g
      obtain ⟨x, y, rfl, r1, r2⟩ := (wsD_ok w g).two
      cases r1 with
      | tup h1 r1 =>
        cases r2 with
        | tup h2 r2 =>
          refine ⟨_, _, _, _, rfl, .inr ⟨same_t k'.2.f h1, same_t k'.2.f h2, q _ _ _ _ _ p k' e (wk_pair walkZT (fun H s => ⟨same_t s h1, same_t s h2⟩) (by rw [zipD_len, r1.length, r2.length]) fun i x y hi e1 e2 => ?_)⟩⟩
          obtain ⟨d, hd, rd⟩ := r1.getV e1
          obtain ⟨d', hd', rd'⟩ := r2.getV e2
          exact ⟨d, d', zipD_get hd hd', rd, rd'⟩
    · exact p.elim
/-- range(i, j, -1) -/
def downD (lo : Int) (n : Nat) : List D := (List.range n).map fun i => .int (lo - (i : Nat))
def iR3 (ta : QA) (ρ : Env) (Q : List D → Env → Prop) : Prop := ta ρ fun ws ρ' => match wsR ρ' ws with
  | some [.int i, .int j, .int c] => c = -1 ∧ (-(2 ^ 62) ≤ i ∧ i < 2 ^ 62 ∧ -(2 ^ 62) ≤ j ∧ j < 2 ^ 62) ∧ Q (downD i (i - j).toNat) ρ'
  | _ => False
theorem i_down (hg : Gl X "range") (hm : X.mg "range" = none) (ha : PA X [e, e2, c] (liftA X.K B ta)) (hs : starEach [e, e2, c] X.env = (false, eval e X.env) :: starEach [e2, c] X.env := by rfl) (hpl : (backTo pos (starEach [e2, c] X.env)).any (·.1) = false := by rfl) :
    PI X tg (.Call (.Name "range" p) [e, e2, c] [] pos) (liftI X.K B (iR3 ta)) :=
  weakI (pi_range3 hg hm ha hs hpl) fun σ H R ⟨G, F, ρ, P, k, h, q⟩ => liftA_use k h fun ws ρ' vs H' F' p k' w e => by
    split at p
    · rename_i i j c0 g
      obtain ⟨rfl, ⟨h1, h2, h3, h4⟩, p⟩ := p
      have r := wsR_ok k' w g
      cases r with
      | cons r1 rr => cases rr with
        | cons r2 rr => cases rr with
          | cons r3 rr =>
            cases rr
            refine ⟨i, j, -1, (i - j).toNat, by rw [r1.int, r2.int, r3.int], RgC.neg h1 h2 h3 h4, q _ _ _ _ _ p k' e ?_⟩
            have w := walk_rangeC (lo := i) (c := -1) (n := (i - j).toNat)
            have hl : (downD i (i - j).toNat).length = (i - j).toNat := by simp [downD]
            refine ⟨fun n H hi s => w.goes n H (by omega) trivial, fun H s => by rw [hl]; exact w.stops H trivial, fun n H x H' hi s y => ?_⟩
            rw [hl] at hi
            obtain ⟨e, rfl⟩ := w.yields n H x H' hi trivial y
            refine ⟨.int (i - (n : Nat)), by simp [downD, hi], .inl ⟨e, ?_⟩⟩
            have : i + (n : Nat) * (-1 : Int) = i - (n : Nat) := by omega
            show Rp X.K F' (V.int (i + (n : Nat) * (-1 : Int))) _
            rw [this]
            exact .int _
    · exact p.elim
end

/-! ### built-in functions -/
section
variable {K : PySem.W.Frag} {B : Box}
theorem RqAll.single {F H : Hp} {vs : List V} {d : D} (r : RqAll K F H vs [d]) : ∃ x, vs = [x] ∧ Rq K F H x d := by
  cases r with
  | cons r1 r => cases r; exact ⟨_, rfl, r1⟩
theorem RqAll.two {F H : Hp} {vs : List V} {d e : D} (r : RqAll K F H vs [d, e]) : ∃ x y, vs = [x, y] ∧ Rq K F H x d ∧ Rq K F H y e := by
  cases r with
  | cons r1 r => cases r with
    | cons r2 r => cases r; exact ⟨_, _, rfl, r1, r2⟩
def pLen : List D → (T → Prop) → Prop
  | [.list ds], Q => Q (.d (.int (ds.length : Nat)))
  | [.tuple ds], Q => Q (.d (.int (ds.length : Nat)))
  | [.str z], Q => z.length ≤ sizeLine ∧ Q (.d (.int (z.length : Nat)))
  | _, _ => False
def rLenP (K : PySem.W.Frag) : List V → Hp → VK → Prop := fun xs H Q => (∃ p ys, xs = [.ref p] ∧ (SqL K H p ys ∨ SqT K H p ys) ∧ Q (.int ys.length) H) ∨ ∃ z, xs = [.str z] ∧ z.length ≤ sizeLine ∧ Q (.int z.length) H
theorem call_lenP {X : Cx} : CallR X (.builtin "len") (rLenP X.K) := call_len_seq.or call_len_str
theorem c_len : CallD K B (rLenP K) pLen := by
  intro G F H σ ρ P Q ds vs k r h q
  unfold pLen at h
  split at h
  · obtain ⟨x, rfl, r1⟩ := r.single
    obtain ⟨a, xs, rfl, s1, t1⟩ := r1.lst k.2.f
    exact .inl ⟨a, xs, rfl, .inl (.inl (.inl s1)), by rw [t1.length]; exact q _ _ _ _ h (k.d (.int _)) (Same.refl F)⟩
  · obtain ⟨x, rfl, r1⟩ := r.single
    obtain ⟨a, xs, rfl, s1, t1⟩ := r1.tup
    exact .inl ⟨a, xs, rfl, .inr (same_t k.2.f s1), by rw [t1.length]; exact q _ _ _ _ h (k.d (.int _)) (Same.refl F)⟩
  · obtain ⟨x, rfl, r1⟩ := r.single
    exact .inr ⟨_, by rw [r1.str], h.1, q _ _ _ _ h.2 (k.d (.int _)) (Same.refl F)⟩
  · exact h.elim
def pInt : List D → (T → Prop) → Prop
  | [.int i], Q => Q (.d (.int i))
  | [.bool b], Q => Q (.d (.int (bi b)))
  | _, _ => False
def rInt1 : List V → Hp → VK → Prop := fun xs H Q => (∃ i, xs = [.int i] ∧ Q (.int i) H) ∨ ∃ k, xs = [.bl k] ∧ Q (.int (if k then 1 else 0)) H
theorem call_intP {X : Cx} : CallR X (.type "int") rInt1 := call_int1
theorem c_int : CallD K B rInt1 pInt := by
  intro G F H σ ρ P Q ds vs k r h q
  unfold pInt at h
  split at h
  · obtain ⟨x, rfl, r1⟩ := r.single
    exact .inl ⟨_, by rw [r1.int], q _ _ _ _ h (k.d (.int _)) (Same.refl F)⟩
  · obtain ⟨x, rfl, r1⟩ := r.single
    exact .inr ⟨_, by rw [r1.bool], q _ _ _ _ h (k.d (.int _)) (Same.refl F)⟩
  · exact h.elim
def pMin2 : List D → (T → Prop) → Prop
  | [.int i, .int j], Q => Q (.d (.int (if j < i then j else i)))
  | _, _ => False
def pMax2 : List D → (T → Prop) → Prop
  | [.int i, .int j], Q => Q (.d (.int (if j > i then j else i)))
  | _, _ => False
theorem c_min2 : CallD K B (fun xs H Q => ∃ i j, xs = [.int i, .int j] ∧ Q (.int (if j < i then j else i)) H) pMin2 := by
  intro G F H σ ρ P Q ds vs k r h q
  unfold pMin2 at h
  split at h
  · obtain ⟨x, y, rfl, r1, r2⟩ := r.two
    exact ⟨_, _, by rw [r1.int, r2.int], q _ _ _ _ h (k.d (.int _)) (Same.refl F)⟩
  · exact h.elim
theorem c_max2 : CallD K B (fun xs H Q => ∃ i j, xs = [.int i, .int j] ∧ Q (.int (if j > i then j else i)) H) pMax2 := by
  intro G F H σ ρ P Q ds vs k r h q
  unfold pMax2 at h
  split at h
  · obtain ⟨x, y, rfl, r1, r2⟩ := r.two
    exact ⟨_, _, by rw [r1.int, r2.int], q _ _ _ _ h (k.d (.int _)) (Same.refl F)⟩
  · exact h.elim
def pAbs : List D → (T → Prop) → Prop
  | [.int i], Q => Q (.d (.int (if i < 0 then -i else i)))
  | _, _ => False
theorem c_abs : CallD K B (fun xs H Q => ∃ i, xs = [.int i] ∧ Q (.int (if i < 0 then -i else i)) H) pAbs := by
  intro G F H σ ρ P Q ds vs k r h q
  unfold pAbs at h
  split at h
  · obtain ⟨x, rfl, r1⟩ := r.single
    exact ⟨_, by rw [r1.int], q _ _ _ _ h (k.d (.int _)) (Same.refl F)⟩
  · exact h.elim
def pTupOf : List D → (T → Prop) → Prop
  | [.list ds], Q => Q (.d (.tuple ds))
  | [.tuple ds], Q => Q (.d (.tuple ds))
  | _, _ => False
def rTupOf (K : PySem.W.Frag) : List V → Hp → VK → Prop := fun xs H Q => ∃ p ys, xs = [.ref p] ∧ ((SqL K H p ys ∧ ∀ l, H l = none → Q (.ref l) (upd H l (.tup ys))) ∨ (SqT K H p ys ∧ Q (.ref p) H))
theorem call_tupP {X : Cx} : CallR X (.type "tuple") (rTupOf X.K) := call_tuple_of
theorem c_tupOf : CallD K B (rTupOf K) pTupOf := by
  intro G F H σ ρ P Q ds vs k r h q
  unfold pTupOf at h
  split at h
  · obtain ⟨x, rfl, r1⟩ := r.single
    obtain ⟨a, xs, rfl, s1, t1⟩ := r1.lst k.2.f
    refine ⟨a, xs, rfl, .inl ⟨.inl (.inl s1), fun l hl => ?_⟩⟩
    obtain ⟨fl, e⟩ := k.newT hl t1
    exact q _ _ _ _ h fl e
  · obtain ⟨x, rfl, r1⟩ := r.single
    obtain ⟨a, xs, rfl, s1, t1⟩ := r1.tup
    exact ⟨a, xs, rfl, .inr ⟨same_t k.2.f s1, q _ _ _ _ h (k.d (.tup s1 t1)) (Same.refl F)⟩⟩
  · exact h.elim
def pLstOf : List D → (T → Prop) → Prop
  | [.list ds], Q => Q (.l ds)
  | [.tuple ds], Q => Q (.l ds)
  | _, _ => False
def rLstOf (K : PySem.W.Frag) : List V → Hp → VK → Prop := fun xs H Q => ∃ p ys, xs = [.ref p] ∧ (SqL K H p ys ∨ SqT K H p ys) ∧ ∀ l, H l = none → Q (.ref l) (upd H l (.lst ys))
theorem call_lstP {X : Cx} : CallR X (.type "list") (rLstOf X.K) := call_list_of
theorem c_lstOf : CallD K B (rLstOf K) pLstOf := by
  intro G F H σ ρ P Q ds vs k r h q
  unfold pLstOf at h
  split at h
  · obtain ⟨x, rfl, r1⟩ := r.single
    obtain ⟨a, xs, rfl, s1, t1⟩ := r1.lst k.2.f
    exact ⟨a, xs, rfl, .inl (.inl (.inl s1)), fun l hl => q _ _ _ _ h (k.newL hl t1) (Same.refl F)⟩
  · obtain ⟨x, rfl, r1⟩ := r.single
    obtain ⟨a, xs, rfl, s1, t1⟩ := r1.tup
    exact ⟨a, xs, rfl, .inr (same_t k.2.f s1), fun l hl => q _ _ _ _ h (k.newL hl t1) (Same.refl F)⟩
  · exact h.elim
/-- repr, where no repr is under way -/
def rRepr (K : PySem.W.Frag) (A : Around) : List V → Hp → VK → Prop := fun xs H Q => ∃ x d, xs = [x] ∧ Dp K H x d ∧ d.hasDict = false ∧ d.showable = true ∧ A.units + (d.depth + 1) < cLine ∧ d.shown.length ≤ sizeLine ∧ Q (.str d.shown) H
theorem call_reprP {X : Cx} (hg : X.A.guards = some []) : CallR X (.builtin "repr") (rRepr X.K X.A) := by
  intro pins s σ H xs us Q I r h
  obtain ⟨x, d, rfl, rd, nd, hs, hu, hz, q⟩ := h
  obtain ⟨u, rfl, ru⟩ := vals1 r
  obtain ⟨as, rr⟩ := Dp.reads I d x u rd ru
  have fin : ∀ (h' : Heap) (t tk : Tok), (∀ b o, s.heap.get? b = some o → h'.get? b = some o) → EP X pins σ Q (.str d.shown t) { s with heap := h', toks := tk } := fun h' t tk kp => ⟨.str _, H, I.kept (t' := tk) kp, ⟨t, rfl⟩, q⟩
  cases rr with
  | none => exact PySem.P.repr_of_none (by simpa only [PyData.shown] using fin s.heap _ _ fun _ _ z => z)
  | bool b => exact PySem.P.repr_of_bool (by simpa only [PyData.shown] using fin s.heap _ _ fun _ _ z => z)
  | int i t => exact PySem.P.repr_of_int (by simpa [PyData.showable] using hs) (by simpa only [PyData.shown] using fin s.heap _ _ fun _ _ z => z)
  | str y t => exact PySem.P.repr_of_str (by simpa only [PyData.shown] using fin s.heap _ _ fun _ _ z => z) (by simpa only [PyData.shown] using hz)
  | list a1 a2 a3 a4 => exact repr_of_reads' (.list a1 a2 a3 a4) hs (fun z => by rw [nd] at z; cases z) hg hu (fun _ _ z => z) fin hz
  | tuple a1 a2 a3 a4 => exact repr_of_reads' (.tuple a1 a2 a3 a4) hs (fun z => by rw [nd] at z; cases z) hg hu (fun _ _ z => z) fin hz
  | dict a1 a2 a3 a4 a5 => exact (by simp [PyData.hasDict] at nd)
def pRepr (u : Nat) : List D → (T → Prop) → Prop
  | [d], Q => nod d = true ∧ d.hasDict = false ∧ d.showable = true ∧ u + (d.depth + 1) < cLine ∧ d.shown.length ≤ sizeLine ∧ Q (.d (.str d.shown))
  | _, _ => False
theorem c_repr {A : Around} : CallD K B (rRepr K A) (pRepr A.units) := by
  intro G F H σ ρ P Q ds vs k r h q
  unfold pRepr at h
  split at h
  · obtain ⟨x, rfl, r1⟩ := r.single
    obtain ⟨h0, h1, h2, h3, h4, h5⟩ := h
    exact ⟨x, _, rfl, r1.dp k.2.f h0, h1, h2, h3, h4, q _ _ _ _ h5 (k.d (.str _)) (Same.refl F)⟩
  · exact h.elim
end
end PL

set_option Elab.async false
set_option linter.all false
set_option maxRecDepth 100000
/-! PL, part 9: methods, stars, sets of tuples and of ints, keywords. -/
namespace PL
open PySem PySem.Spec L2

/-! ### methods of one argument -/
def MtD (K : PySem.W.Frag) (B : Box) (r0 : V → List V → Hp → VK → Prop) (p : D → D → (T → Prop) → Prop) : Prop := OpD K B (fun x y H Q => r0 x [y] H Q) p
section
variable {X : Cx} {B : Box} {o e : Expr} {to te : QE} {apos pos : Pos} {K : PySem.W.Frag}
/-- of a text -/
def qM1 (p : D → D → (T → Prop) → Prop) (to te : QE) (ρ : Env) (Q : T → Env → Prop) : Prop := to ρ fun r1 ρ1 => match r1.w with
  | .d (.str a) => te ρ1 fun r2 ρ2 => match r2.w.dat ρ2 with
    | some d2 => p (.str a) d2 fun r => Q r ρ2
    | none => False
  | _ => False
theorem lift_m1 {r0 : V → List V → Hp → VK → Prop} {p : D → D → (T → Prop) → Prop} (hp : MtD K B r0 p) {σ : St} {H : Hp} {Q : VK} (h : lift K B (qM1 p to te) σ H Q) : tM1 r0 (lift K B to) (lift K B te) σ H Q := by
  obtain ⟨G, F, ρ, P, k, h, q⟩ := h
  refine lift_use k h fun r1 ρ1 v1 H1 F1 h1 k1 w1 e1 => ?_
  split at h1
  · rename_i a g
    rw [g] at w1
    cases w1
    refine ⟨⟨a, rfl⟩, lift_use k1 h1 fun r2 ρ2 v2 H2 F2 h2 k2 w2 e2 => ?_⟩
    split at h2
    · rename_i d2 g2
      exact hp _ _ _ _ _ _ _ _ _ _ _ k2 (.inl (.str a)) (k2.read w2 g2) h2 fun r v H' F' p' fl e => q r ρ2 v H' F' p' fl ((e1.trans e2).trans e)
    · exact h2.elim
  · exact h1.elim
def pStarts : D → D → (T → Prop) → Prop
  | .str a, .str b, Q => Q (.d (.bool (Txt.startswith a b)))
  | _, _, _ => False
theorem m_starts : MtD K B (fun x xs H Q => ∃ a b, x = .str a ∧ xs = [.str b] ∧ Q (.bl (Txt.startswith a b)) H) pStarts := by
  intro G F H σ ρ P Q d1 d2 v1 v2 k r1 r2 h q
  unfold pStarts at h
  split at h
  · exact ⟨_, _, r1.str, by rw [r2.str], q _ _ _ _ h (k.d (.bl _)) (Same.refl F)⟩
  · exact h.elim
theorem q_starts (ho : PE X o (lift X.K B to)) (he : PE X e (lift X.K B te)) (hs : starEach [e] X.env = [(false, eval e X.env)] := by rfl) (hbase : attributeBase o "startswith" X.env (eval o X.env) = eval o X.env := by rfl) (hline : (apos.endLine == pos.line) = true := by rfl) :
    PE X (.Call (.Attribute o "startswith" apos) [e] [] pos) (lift X.K B (qM1 pStarts to te)) := weakE (pe_m1 PySem.F.slot_str_startswith PySem.F.type_str_startswith mt_startswith ho he hs hbase hline) fun _ _ _ => lift_m1 m_starts
def pSIndex : D → D → (T → Prop) → Prop
  | .str a, .str b, Q => ∃ i rest, Builtin.Str.occurrences a b 0 a.length 1 = i :: rest ∧ Q (.d (.int (i : Nat)))
  | _, _, _ => False
theorem m_sindex : MtD K B (fun x xs H Q => ∃ a b i rest, x = .str a ∧ xs = [.str b] ∧ Builtin.Str.occurrences a b 0 a.length 1 = i :: rest ∧ Q (.int (i : Nat)) H) pSIndex := by
  intro G F H σ ρ P Q d1 d2 v1 v2 k r1 r2 h q
  unfold pSIndex at h
  split at h
  · obtain ⟨i, rest, h1, h2⟩ := h
    exact ⟨_, _, i, rest, r1.str, by rw [r2.str], h1, q _ _ _ _ h2 (k.d (.int _)) (Same.refl F)⟩
  · exact h.elim
theorem q_sindex (ho : PE X o (lift X.K B to)) (he : PE X e (lift X.K B te)) (hs : starEach [e] X.env = [(false, eval e X.env)] := by rfl) (hbase : attributeBase o "index" X.env (eval o X.env) = eval o X.env := by rfl) (hline : (apos.endLine == pos.line) = true := by rfl) :
    PE X (.Call (.Attribute o "index" apos) [e] [] pos) (lift X.K B (qM1 pSIndex to te)) := weakE (pe_m1 PySem.F.slot_str_index PySem.F.type_str_index mt_sindex ho he hs hbase hline) fun _ _ _ => lift_m1 m_sindex
def pJoin : D → D → (T → Prop) → Prop
  | .str a, .list ds, Q => ∃ ys : List Str, ds = ys.map .str ∧ (ys.map (·.length)).sum + ys.length * a.length ≤ 16777216 ∧ Q (.d (.str (Txt.join a ys)))
  | .str a, .tuple ds, Q => ∃ ys : List Str, ds = ys.map .str ∧ (ys.map (·.length)).sum + ys.length * a.length ≤ 16777216 ∧ Q (.d (.str (Txt.join a ys)))
  | _, _, _ => False
theorem m_join : MtD K B (fun x xs H Q => ∃ a p, ∃ ys : List Str, x = .str a ∧ xs = [.ref p] ∧ (SqL K H p (ys.map V.str) ∨ SqT K H p (ys.map V.str)) ∧ (ys.map (·.length)).sum + ys.length * a.length ≤ 16777216 ∧ Q (.str (Txt.join a ys)) H) pJoin := by
  intro G F H σ ρ P Q d1 d2 v1 v2 k r1 r2 h q
  unfold pJoin at h
  split at h
  · obtain ⟨ys, rfl, h1, h2⟩ := h
    obtain ⟨p, xs, rfl, s1, t1⟩ := r2.lst k.2.f
    obtain rfl := t1.strs
    exact ⟨_, p, ys, r1.str, rfl, .inl (.inl (.inl s1)), h1, q _ _ _ _ h2 (k.d (.str _)) (Same.refl F)⟩
  · obtain ⟨ys, rfl, h1, h2⟩ := h
    obtain ⟨p, xs, rfl, s1, t1⟩ := r2.tup
    obtain rfl := t1.strs
    exact ⟨_, p, ys, r1.str, rfl, .inr (same_t k.2.f s1), h1, q _ _ _ _ h2 (k.d (.str _)) (Same.refl F)⟩
  · exact h.elim
theorem q_join (ho : PE X o (lift X.K B to)) (he : PE X e (lift X.K B te)) (hs : starEach [e] X.env = [(false, eval e X.env)] := by rfl) (hbase : attributeBase o "join" X.env (eval o X.env) = eval o X.env := by rfl) (hline : (apos.endLine == pos.line) = true := by rfl) :
    PE X (.Call (.Attribute o "join" apos) [e] [] pos) (lift X.K B (qM1 pJoin to te)) := weakE (pe_join ho he hs hbase hline) fun _ _ _ => lift_m1 m_join
/-- of a list, looked at -/
def qBM (p : D → D → (T → Prop) → Prop) (to te : QE) (ρ : Env) (Q : T → Env → Prop) : Prop := to ρ fun r1 ρ1 => (∃ ds, r1.w.dat ρ1 = some (.list ds)) ∧ te ρ1 fun r2 ρ2 => match r1.w.dat ρ2, r2.w.dat ρ2 with
  | some d1, some d2 => p d1 d2 fun r => Q r ρ2
  | _, _ => False
theorem lift_bm {r0 : V → List V → Hp → VK → Prop} {p : D → D → (T → Prop) → Prop} (hp : MtD K B r0 p) {σ : St} {H : Hp} {Q : VK} (h : lift K B (qBM p to te) σ H Q) : tBM K "list" r0 (lift K B to) (tCons (lift K B te) tNil) σ H Q := by
  obtain ⟨G, F, ρ, P, k, h, q⟩ := h
  refine lift_use k h fun r1 ρ1 v1 H1 F1 ⟨⟨ds, hd⟩, h1⟩ k1 w1 e1 => ?_
  obtain ⟨a, xs, rfl, s1, t1⟩ := (k1.read w1 hd).lst k1.2.f
  refine ⟨.inl ⟨rfl, _, .inl (.inl s1)⟩, lift_use k1 h1 fun r2 ρ2 v2 H2 F2 h2 k2 w2 e2 => ?_⟩
  split at h2
  · rename_i d1 d2 g1 g2
    exact hp _ _ _ _ _ _ _ _ _ _ _ k2 (k2.read (w1.mono e2) g1) (k2.read w2 g2) h2 fun r v H' F' p' fl e => q r ρ2 v H' F' p' fl ((e1.trans e2).trans e)
  · exact h2.elim
def pIndex : D → D → (T → Prop) → Prop
  | .list ds, d, Q => SeqAt.shaped (.list ds) = true ∧ SeqAt.shaped d = true ∧ ∃ j z, ds[j]? = some z ∧ PyData.eqv z d = true ∧ (∀ m z', m < j → ds[m]? = some z' → PyData.eqv z' d = false) ∧ Q (.d (.int (j : Nat)))
  | _, _, _ => False
theorem m_index : MtD K B (rIndexD K) pIndex := by
  intro G F H σ ρ P Q d1 d2 v1 v2 k r1 r2 h q
  unfold pIndex at h
  split at h
  · obtain ⟨h1, h2, j, z, h3, h4, h5, h6⟩ := h
    have r1' := r1.dpS k.2.f h1
    obtain ⟨a, xs, rfl, _, _⟩ := r1.lst k.2.f
    exact ⟨a, v2, _, _, j, z, rfl, rfl, r1', r2.dpS k.2.f h2, h1, h2, h3, h4, h5, q _ _ _ _ h6 (k.d (.int _)) (Same.refl F)⟩
  · exact h.elim
theorem q_index (hu : X.A.units + 65 < cLine) (ho : PE X o (lift X.K B to)) (he : PE X e (lift X.K B te)) (hbase : attributeBase o "index" X.env (eval o X.env) = eval o X.env := by rfl)
    (hfew : ((backTo pos (starEach [e] X.env)).all (fun x => !x.1) && (backToKw pos (keywordEach [] X.env)).all (fun x => x.1.isSome) && decide ([e].length + ([] : List Keyword).length + (if ([] : List Keyword).isEmpty then 0 else 1) < 30)) = true := by rfl)
    (hline : (apos.endLine == pos.line) = true := by rfl) (hs : starEach [e] X.env = (false, eval e X.env) :: starEach [] X.env := by rfl) (hplain : (backTo pos (starEach [] X.env)).any (·.1) = false := by rfl) :
    PE X (.Call (.Attribute o "index" apos) [e] [] pos) (lift X.K B (qBM pIndex to te)) :=
  weakE (pe_bm PySem.F.plainAttrs_list PySem.F.slot_list_index PySem.F.type_list_index (mt_indexD hu) ho (pa_cons he pa_nil hs) hbase hfew hline hs hplain) fun _ _ _ => lift_bm m_index

/-! ### a star within a display -/
def qStar (te : QE) (t : QA) (ρ : Env) (Q : List W → Env → Prop) : Prop := te ρ fun r ρ1 => match r.w with
  | .d (.list ds) => t ρ1 fun ws ρ2 => Q (ds.map .d ++ ws) ρ2
  | .d (.tuple ds) => t ρ1 fun ws ρ2 => Q (ds.map .d ++ ws) ρ2
  | _ => False
theorem WsOk.app {F : Hp} {σ : St} : ∀ {ds : List D} {vs us : List V} {ws : List W}, RpAll K F vs ds → WsOk K F σ ws us → WsOk K F σ (ds.map .d ++ ws) (vs ++ us)
  | _, _, _, _, .nil, h => h
  | _, _, _, _, .cons r rr, h => .cons r (WsOk.app rr h)
theorem a_star {es : List Expr} {t : QA} {p : Pos} (he : PE X e (lift X.K B te)) (hr : PA X es (liftA X.K B t)) (hs : starEach (.Starred e p :: es) X.env = (true, eval e X.env) :: starEach es X.env := by rfl) : PA X (.Starred e p :: es) (liftA X.K B (qStar te t)) :=
  weakA (StX.pa_star he hr hs) fun σ H Q ⟨G, F, ρ, P, k, h, q⟩ => lift_use k h fun r ρ1 v H1 F1 h1 k1 w1 e1 => by
    split at h1
    · rename_i ds g
      rw [g] at w1
      cases w1 with
      | lst hh rr => exact ⟨_, _, rfl, .inr (.inl (.inl (k1.2.f _ _ hh))), liftA_use k1 h1 fun ws ρ2 vs H2 F2 h2 k2 w2 e2 => q _ ρ2 _ H2 F2 h2 k2 (WsOk.app (rr.mono e2) w2) (e1.trans e2)⟩
    · rename_i ds g
      rw [g] at w1
      cases w1 with
      | tup hh rr => exact ⟨_, _, rfl, .inl (same_t k1.2.f hh), liftA_use k1 h1 fun ws ρ2 vs H2 F2 h2 k2 w2 e2 => q _ ρ2 _ H2 F2 h2 k2 (WsOk.app (rr.mono e2) w2) (e1.trans e2)⟩
    · exact h1.elim
end

/-! ### sorted(set(xs)), xs tuples of ints; len(set(xs)), xs ints -/
def tupI (k : List Int) : D := .tuple (k.map .int)
section
variable {X : Cx} {B : Box} {e : Expr} {te : QE} {p p2 q pos : Pos}
def pSortSet : D → (T → Prop) → Prop
  | .list ds, Q => ∃ (ks : List (List Int)) (d : Nat) (b : Int), ds = ks.map tupI ∧ ks.length < 64 ∧ 1 ≤ d ∧ (∀ k ∈ ks, k.length = d ∧ TS.Bd b k) ∧
    ∀ L : List (List Int), L.Nodup → (∀ k, k ∈ L ↔ k ∈ ks) → L.length < 64 → L.Pairwise (fun q r => TS.code b q ≤ TS.code b r) → Q (.l (L.map tupI))
  | _, _ => False
def qFn (p : D → (T → Prop) → Prop) (te : QE) (ρ : Env) (Q : T → Env → Prop) : Prop := te ρ fun r ρ1 => match r.w.dat ρ1 with
  | some d => p d fun r => Q r ρ1
  | none => False
theorem tups_of {K : PySem.W.Frag} {F : Hp} : ∀ {ks : List (List Int)} {xs : List V}, RpAll K F xs (ks.map tupI) → ∃ as : List (Addr × List Int), as.map (·.2) = ks ∧ xs = as.map (fun p => V.ref p.1) ∧ ∀ p ∈ as, F p.1 = some (.tup (p.2.map V.int))
  | [], _, .nil => ⟨[], rfl, rfl, fun _ z => nomatch z⟩
  | k :: ks, _, .cons r rr => by
    obtain ⟨as, h1, h2, h3⟩ := tups_of rr
    cases r with
    | tup s t =>
      rename_i a ys
      refine ⟨(a, k) :: as, by simp [h1], by simp [h2], fun p hp => ?_⟩
      rcases List.mem_cons.mp hp with rfl | z
      · rw [t.ints] at s
        exact s
      · exact h3 p z
theorem rp_tups {K : PySem.W.Frag} {F : Hp} : ∀ {L : List (Addr × List Int)}, (∀ p ∈ L, F p.1 = some (.tup (p.2.map V.int))) → RpAll K F (L.map fun q => V.ref q.1) ((L.map (·.2)).map tupI)
  | [], _ => .nil
  | p :: L, h => .cons (.tup (h p List.mem_cons_self) (rpAll_ints _)) (rp_tups fun q hq => h q (List.mem_cons_of_mem _ hq))
theorem q_sortSet (hc : X.calm = true) (hu : X.A.units + 64 < cLine) (hg : Gl X "sorted") (hm : X.mg "sorted" = none) (hg2 : Gl X "set") (hm2 : X.mg "set" = none) (he : PE X e (lift X.K B te))
    (hs1 : starEach [e] X.env = (false, eval e X.env) :: starEach [] X.env := by rfl) (hs2 : starEach [.Call (.Name "set" p2) [e] [] q] X.env = (false, eval (.Call (.Name "set" p2) [e] [] q) X.env) :: starEach [] X.env := by rfl) :
    PE X (.Call (.Name "sorted" p) [.Call (.Name "set" p2) [e] [] q] [] pos) (lift X.K B (qFn pSortSet te)) :=
  weakE (pe_callB (cr_sortedT hc) hg hm (by rfl) (pa_cons (pe_callTy (cr_setOfT hc hu) hg2 hm2 (by rfl) (pa_cons he pa_nil hs1) (by decide) (by decide) hs1 (by rfl)) pa_nil hs2) (by decide) (by decide) hs2 (by rfl)) fun σ H Q ⟨G, F, ρ, P, k, h, q⟩ => lift_use k h fun r ρ1 v H1 F1 h1 k1 w1 e1 => by
    split at h1
    · rename_i d g
      have rq := k1.read w1 g
      unfold pSortSet at h1
      split at h1
      · obtain ⟨ks, dd, b, rfl, h2, h3, h4, h5⟩ := h1
        obtain ⟨l, xs, rfl, s1, t1⟩ := rq.lst k1.2.f
        obtain ⟨as, rfl, rfl, hT⟩ := tups_of t1
        have hlen : as.length < 64 := by simpa using h2
        refine ⟨l, as, rfl, .inl (.inl s1), fun p hp => same_t k1.2.f (hT p hp), hlen, fun a L ha hsub hall => ?_⟩
        have k2 := k1.dust (o := SetTO X.prog X.w a L) ha
        have s2 : Same H1 (upd H1 a (SetTO X.prog X.w a L)) := same_upd ha
        have hTL : ∀ p ∈ L, F1 p.1 = some (.tup (p.2.map V.int)) := fun p hp => hT p (hsub p hp)
        refine ⟨a, L, dd, b, rfl, upd_same, fun p hp => same_t k2.2.f (hTL p hp), h3, fun p hp => h4 p.2 (List.mem_map.mpr ⟨p, hsub p hp, rfl⟩), fun L' y pm nd few pw hy => ?_⟩
        have hTL' : ∀ p ∈ L', F1 p.1 = some (.tup (p.2.map V.int)) := fun p hp => hTL p (pm.mem_iff.mp hp)
        refine q _ _ _ _ _ (h5 (L'.map (·.2)) nd (fun z => Iff.intro (fun hz => ?_) (fun hz => ?_)) (by simpa using few) (List.pairwise_map.mpr pw)) (k2.newL hy (rp_tups hTL')) e1
        · obtain ⟨p, hp, rfl⟩ := List.mem_map.mp hz
          exact List.mem_map.mpr ⟨p, hsub p (pm.mem_iff.mp hp), rfl⟩
        · obtain ⟨p, hp, rfl⟩ := List.mem_map.mp hz
          obtain ⟨r, hr, e⟩ := List.mem_map.mp (hall p hp)
          exact List.mem_map.mpr ⟨r, pm.mem_iff.mpr hr, e⟩
      · exact h1.elim
    · exact h1.elim
def pLenSet : D → (T → Prop) → Prop
  | .list ds, Q => ∃ ns : List Int, ds = ns.map .int ∧ ns.length ≤ 4000 ∧ ∀ l : List Int, l.Nodup → (∀ k, k ∈ l ↔ k ∈ ns) → Q (.d (.int (l.length : Nat)))
  | _, _ => False
theorem met_ok (f : Nat → Int) : ∀ n, (PyProof.Rows.firstMet f n).Nodup ∧ ∀ k, k ∈ PyProof.Rows.firstMet f n ↔ ∃ i, i < n ∧ f i = k
  | 0 => ⟨List.nodup_nil, fun k => ⟨(fun z => nomatch z), fun ⟨i, hi, _⟩ => by omega⟩⟩
  | n + 1 => by
    obtain ⟨nd, hm⟩ := met_ok f n
    rw [PyProof.Rows.firstMet_succ]
    unfold PyProof.Rows.step_dedup
    split
    · rename_i hany
      obtain ⟨x, hx, ex⟩ := List.any_eq_true.mp hany
      have ex : x = f n := eq_of_beq ex
      subst ex
      refine ⟨nd, fun k => ⟨fun z => ?_, fun ⟨i, hi, e⟩ => ?_⟩⟩
      · obtain ⟨i, hi, e⟩ := (hm k).mp z
        exact ⟨i, by omega, e⟩
      · by_cases h : i < n
        · exact (hm k).mpr ⟨i, h, e⟩
        · have : i = n := by omega
          subst this
          rw [← e]
          exact hx
    · rename_i hany
      have hn : f n ∉ PyProof.Rows.firstMet f n := fun z => hany (List.any_eq_true.mpr ⟨_, z, beq_self_eq_true _⟩)
      refine ⟨List.nodup_append.mpr ⟨nd, by simp, fun a ha b hb => ?_⟩, fun k => ?_⟩
      · obtain rfl := List.mem_singleton.mp hb
        rintro rfl
        exact hn ha
      · rw [List.mem_append, List.mem_singleton, hm k]
        constructor
        · rintro (⟨i, hi, e⟩ | e)
          · exact ⟨i, by omega, e⟩
          · exact ⟨n, by omega, e.symm⟩
        · rintro ⟨i, hi, e⟩
          by_cases h : i < n
          · exact .inl ⟨i, h, e⟩
          · have : i = n := by omega
            subst this
            exact .inr e.symm
theorem q_lenSet (hc : X.calm = true) (hg : Gl X "len") (hm : X.mg "len" = none) (hg2 : Gl X "set") (hm2 : X.mg "set" = none) (he : PE X e (lift X.K B te)) (na : starEach [e] X.env = (false, eval e X.env) :: starEach [] X.env := by rfl) :
    PE X (.Call (.Name "len" p) [.Call (.Name "set" p2) [e] [] q] [] pos) (lift X.K B (qFn pLenSet te)) := by
  refine ⟨fun pins s σ H Q I h => PyProof.Rows.Call_ (ld_blt I hg hm PySem.boot_len (PyProof.Rows.callWith_builtin1 (PyProof.Rows.args_cons ?_ rfl) rfl rfl))⟩
  obtain ⟨G, F, ρ, P, k, h, qq⟩ := h
  have hE : lift X.K B te σ H fun v H1 => ∃ l, ∃ ns : List Int, v = .ref l ∧ SqL X.K H1 l (ns.map V.int) ∧ ns.length ≤ 4000 ∧ ∀ L : List Int, L.Nodup → (∀ k, k ∈ L ↔ k ∈ ns) → Q (.int (L.length : Nat)) H1 :=
    lift_use k h fun r ρ1 v H1 F1 h1 k1 w1 e1 => by
      split at h1
      · rename_i d g
        have rq := k1.read w1 g
        unfold pLenSet at h1
        split at h1
        · obtain ⟨ns, rfl, h2, h3⟩ := h1
          obtain ⟨l, xs, rfl, s1, t1⟩ := rq.lst k1.2.f
          obtain rfl := t1.ints
          exact ⟨l, ns, rfl, .inl (.inl s1), h2, fun L a b => qq _ _ _ _ _ (h3 L a b) (k1.d (.int _)) e1⟩
        · exact h1.elim
      · exact h1.elim
  refine PyProof.Rows.Call_ (ld_blt I hg2 hm2 PyProof.Rows.boot_set (PyProof.Rows.callWith_type1 (PyProof.Rows.args_cons (thn (he.run pins s σ H _ I hE) fun v s1 ⟨x, H1, I1, r1, q1⟩ => PyProof.Rows.args_nil ?_) na) na rfl))
  obtain ⟨l, ns, rfl, hq, hn, q1⟩ := q1
  cases r1
  obtain ⟨its, rv, pl, hz⟩ := I1.list hq
  have hlen : its.toArray.size = ns.length := by rw [List.size_toArray, ← rv.length, List.length_map]
  refine call_set_list (I1.ok.hd hc) pl.isList (by simpa using RZ.intsAre_vals rv) (by rw [hlen]; unfold scanBound; omega) fun h' tk hS hk => PyProof.Rows.args_nil ?_
  rw [hlen] at hS
  obtain ⟨o, es, ep, t, ho, hex, hd, _, _, _, hf, hw⟩ := hS
  have I2 : Inv X pins σ H1 { s1 with heap := h', toks := tk } := I1.kept fun b o e => hk b o (Heap.lt_size e) e
  have hle := PyProof.Rows.firstMet_length_le (fun i => ns.getD i 0) ns.length
  obtain ⟨nd, hmem⟩ := met_ok (fun i => ns.getD i 0) ns.length
  refine PySem.call_len_set ho hex hd hf (by rw [hw] <;> omega) ⟨.int ((PyProof.Rows.firstMet (fun i => ns.getD i 0) ns.length).length : Nat), H1, I2.tok _, ⟨_, by rw [hw]⟩, q1 _ nd fun z => (hmem z).trans ⟨fun ⟨i, hi, e⟩ => ?_, fun hz => ?_⟩⟩
  · rw [← e]
    simp [List.getD_eq_getElem?_getD, hi]
  · obtain ⟨i, hi, e⟩ := List.mem_iff_getElem.mp hz
    exact ⟨i, hi, by simp [List.getD_eq_getElem?_getD, hi, e]⟩
end
end PL

set_option Elab.async false
set_option linter.all false
set_option maxRecDepth 100000
/-! PL, part 10: calls by keywords and by a star; the law's own end. -/
namespace PL
open PySem PySem.Spec L2

/-! ### keywords -/
section
variable {X : Cx} {B : Box} {e : Expr} {kws : List Keyword} {te : QE} {t : QA} {nm : Option Str} {kpos : Pos}
theorem weakK {t t' : TA} (h : PK X kws t) (k : ∀ σ H Q, t' σ H Q → t σ H Q) : PK X kws t' := ⟨fun pos pins s σ H Q I q => h.run pos pins s σ H Q I (k σ H Q q)⟩
theorem k_nil : PK X [] (liftA X.K B qNil) := weakK pk_nil fun σ H Q ⟨G, F, ρ, P, k, h, q⟩ => q [] ρ [] H F h k .nil (Same.refl F)
theorem k_cons (ha : PE X e (lift X.K B te)) (hr : PK X kws (liftA X.K B t)) : PK X (⟨nm, e, kpos⟩ :: kws) (liftA X.K B (qCons te t)) :=
  weakK (pk_cons ha hr) fun σ H Q ⟨G, F, ρ, P, k, h, q⟩ => lift_use k h fun r1 ρ1 v1 H1 F1 h1 k1 w1 e1 => liftA_use k1 h1 fun ws ρ2 vs H2 F2 h2 k2 w2 e2 => q _ ρ2 (v1 :: vs) H2 F2 h2 k2 (.cons (w1.mono e2) w2) (e1.trans e2)
/-- picked by place -/
def pickL {α : Type} (d : α) (is : List Nat) (xs : List α) : List α := is.map fun i => xs.getD i d
def ordK {α : Type} (d : α) (n m : Nat) (is : List Nat) (us ws : List α) : List α := if us.length = n ∧ ws.length = m then pickL d is (us ++ ws) else []
theorem vals_pick {vs : List V} {us : List Value} (r : Vals vs us) : ∀ is : List Nat, Vals (pickL V.non is vs) (pickL Value.none is us)
  | [] => .nil
  | i :: is => by
    refine .cons ?_ (vals_pick r is)
    cases h : vs[i]? with
    | none =>
      have hl := List.getElem?_eq_none_iff.mp h
      have h2 : us[i]? = none := List.getElem?_eq_none (by rw [← r.length]; exact hl)
      simp only [List.getD_eq_getElem?_getD, h, h2]
      exact rfl
    | some v =>
      obtain ⟨u, hu, ru⟩ := r.get h
      simp only [List.getD_eq_getElem?_getD, h, hu]
      exact ru
structure KB (K : PySem.W.Frag) (fd : FuncData) (ps ks : List Str) (n : Nat) (is : List Nat) : Prop where
  kb : KBinds K fd ps ks (ordK .none n ks.length is) (ordK .non n ks.length is)
theorem KB.mk' {K : PySem.W.Frag} {fd : FuncData} {ps ks : List Str} {n : Nat} {is : List Nat} (hp : ps ≠ []) (h : ∀ us ws : List Value, us.length = n → ws.length = ks.length → bindArgs fd ⟨us, ks.zip ws⟩ = pure (ps.zip (pickL .none is (us ++ ws)))) : KB K fd ps ks n is := by
  refine ⟨⟨fun s us ws _ hl => ?_, fun {vs us zs ws} r rz => ?_⟩⟩
  · unfold ordK at hl ⊢
    split
    · rename_i hc
      exact .of_eq (h us ws hc.1 hc.2)
    · rename_i hc
      rw [if_neg hc] at hl
      exact (hp (List.eq_nil_of_length_eq_zero hl.symm)).elim
  · unfold ordK
    rw [r.length, rz.length]
    split
    · exact vals_pick (r.append rz) is
    · exact .nil
theorem funKB {K : PySem.W.Frag} {x qual : Str} {st : Stmt} {f : Addr} {fd : FuncData} {ps ks : List Str} {n : Nat} {is : List Nat} (F : Fun K x qual st f fd) (hp : ps ≠ [])
    (h : ∀ (kV doc pm : Value) (an : Option Addr) (cdv ct : Value) (us ws : List Value), us.length = n → ws.length = ks.length → bindArgs (PySem.W.fnOf x qual (defArgs st) (defBody st) (defScope st) .none kV doc pm an cdv ct) ⟨us, ks.zip ws⟩ = pure (ps.zip (pickL .none is (us ++ ws)))) : KB K fd ps ks n is := by
  obtain ⟨oc, od, kV, doc, pm, an, cdv, ct, osl, rfl, lk, hcd⟩ := F.ex
  exact KB.mk' hp (h kV doc pm an cdv ct)
variable {CX : CXT} {kk : Nat} {f : Addr} {fd : FuncData} {ps ks : List Str} {n n0 : Nat} {is : List Nat} {φ : List T → (T → Prop) → Prop} {E : XK} {x : Str} {p pos : Pos}
def qKw (n m : Nat) (is : List Nat) (t tk : QA) (ρ : Env) (Q : List W → Env → Prop) : Prop := t ρ fun ws ρ1 => tk ρ1 fun zs ρ2 => (ws.length = n ∧ zs.length = m) ∧ Q (pickL .no is (ws ++ zs)) ρ2
theorem WsOk.append {K : PySem.W.Frag} {F : Hp} {σ : St} : ∀ {ws zs : List W} {vs us : List V}, WsOk K F σ ws vs → WsOk K F σ zs us → WsOk K F σ (ws ++ zs) (vs ++ us)
  | _, _, _, _, .nil, h => h
  | _, _, _, _, .cons r rr, h => .cons r (WsOk.append rr h)
theorem WsOk.length {K : PySem.W.Frag} {F : Hp} {σ : St} : ∀ {ws : List W} {vs : List V}, WsOk K F σ ws vs → ws.length = vs.length
  | _, _, .nil => rfl
  | _, _, .cons r rr => congrArg (· + 1) (WsOk.length rr)
theorem WsOk.get {K : PySem.W.Frag} {F : Hp} {σ : St} : ∀ {ws : List W} {vs : List V} (i : Nat), WsOk K F σ ws vs → WOk K F σ (ws.getD i .no) (vs.getD i .non)
  | _, _, _, .nil => trivial
  | _, _, 0, .cons r rr => r
  | _, _, i + 1, .cons r rr => by simpa using WsOk.get i rr
theorem WsOk.pick {K : PySem.W.Frag} {F : Hp} {σ : St} {ws : List W} {vs : List V} (h : WsOk K F σ ws vs) : ∀ is : List Nat, WsOk K F σ (pickL .no is ws) (pickL .non is vs)
  | [] => .nil
  | i :: is => .cons (h.get i) (WsOk.pick h is)
theorem lift_kw {tk : QA} {n m : Nat} {σ : St} {H : Hp} {Q : List V → Hp → Prop} (h : liftA X.K B (qKw n m is t tk) σ H Q) : liftA X.K B t σ H fun vs H1 => liftA X.K B tk σ H1 fun zs H2 => Q (ordK .non n m is vs zs) H2 := by
  obtain ⟨G, F, ρ, P, k, h, q⟩ := h
  refine liftA_use k h fun ws ρ1 vs H1 F1 h1 k1 w1 e1 => liftA_use k1 h1 fun zs ρ2 us H2 F2 h2 k2 w2 e2 => ?_
  obtain ⟨⟨l1, l2⟩, h3⟩ := h2
  unfold ordK
  rw [if_pos ⟨w1.length.symm.trans l1, w2.length.symm.trans l2⟩]
  exact q _ _ _ _ _ h3 k2 (((w1.mono e2).append w2).pick is) (e1.trans e2)
/-- f(k = v, ..) -/
theorem q_callK0 {tk : QA} (F : FnA X.prog X.w X.K X.mg X.base CX X.A f fd ps (spP X.K B.bare n φ)) (hn : ∀ ts P, φ ts P → ts.length = n) (hg : Gl X x) (hm : X.mg x = some (.ref f)) (hk : PySem.W.keepIn X.K (.ref f) = true) (hb : KB X.K fd ps ks 0 is) (hx : Passes CX X E)
    (hkw : PK X kws (liftA X.K B tk)) (hall : (backToKw pos (keywordEach kws X.env)).all (·.1.isSome) = true := by rfl) (hks : (backToKw pos (keywordEach kws X.env)).filterMap (·.1) = ks := by rfl) (hdb : (x == ("__debug__" : Str)) = false := by decide)
    (hpl : ((backTo pos (starEach [] X.env)).any (·.1) || (backToKw pos (keywordEach kws X.env)).any (·.1.isNone)) = false := by rfl) :
    PE X (.Call (.Name x p) [] kws pos) (lift X.K B (qCallF φ (qKw 0 ks.length is qNil tk))) := by
  refine ⟨fun pins s σ H Q I h => ?_⟩
  have h' := lift_kw (lift_callF (E := E) hn h)
  obtain ⟨G, F0, ρ, P, k, hP, q⟩ := h'
  have h2 := q [] ρ [] H F0 hP k .nil (Same.refl F0)
  refine wpAny_Call_Name_kw (ld_glob I hg hm (PySem.W.callWith_KW0 (h₀ := X.base) I.ok.mod.kin hk hall ?_ hpl) hdb)
  refine thn (hkw.run pos pins s σ H _ I h2) fun ws s2 ⟨zs, H2, I2, rz, q2⟩ => ⟨I2.kIn, ?_⟩
  rw [hks]
  have q3 : spP X.K B.bare n φ (ordK V.non 0 ks.length is [] zs) H2 Q E := by
    have z : spP X.K B.bare n φ (ordK V.non 0 ks.length is [] zs ++ []) H2 Q E := q2
    rw [List.append_nil] at z
    exact z
  exact kwA (us := []) (vs := []) F hb.kb hx I2 .nil rz q3
/-- f(e, .., k = v, ..) -/
theorem q_callK {a : Expr} {es : List Expr} {tk : QA} (F : FnA X.prog X.w X.K X.mg X.base CX X.A f fd ps (spP X.K B.bare n φ)) (hn : ∀ ts P, φ ts P → ts.length = n) (hg : Gl X x) (hm : X.mg x = some (.ref f)) (hk : PySem.W.keepIn X.K (.ref f) = true) (hb : KB X.K fd ps ks n0 is) (hx : Passes CX X E)
    (ha : PA X (a :: es) (liftA X.K B t)) (hkw : PK X kws (liftA X.K B tk)) (hall : (backToKw pos (keywordEach kws X.env)).all (·.1.isSome) = true := by rfl) (hks : (backToKw pos (keywordEach kws X.env)).filterMap (·.1) = ks := by rfl) (hdb : (x == ("__debug__" : Str)) = false := by decide)
    (he : starEach (a :: es) X.env = (false, eval a X.env) :: starEach es X.env := by rfl) (hpl : ((backTo pos (starEach (a :: es) X.env)).any (·.1) || (backToKw pos (keywordEach kws X.env)).any (·.1.isNone)) = false := by rfl) :
    PE X (.Call (.Name x p) (a :: es) kws pos) (lift X.K B (qCallF φ (qKw n0 ks.length is t tk))) :=
  weakE (pe_callKA F hg hm hk hb.kb hx ha hkw hall hks hdb he hpl) fun σ H Q h => by
    have h' := lift_kw (lift_callF (E := E) hn h)
    simp only [List.append_nil] at h'
    exact h'
/-- f(*e) -/
theorem q_callS {sp_ : Pos} (F : FnA X.prog X.w X.K X.mg X.base CX X.A f fd ps (spP X.K B.bare n φ)) (hn : ∀ ts P, φ ts P → ts.length = n) (hg : Gl X x) (hm : X.mg x = some (.ref f)) (hk : PySem.W.keepIn X.K (.ref f) = true) (hb : Binds X.K fd ps []) (hx : Passes CX X E)
    (he : PE X e (lift X.K B te)) (hd : (x == ("__debug__" : Str)) = false := by decide) (hst : starEach [.Starred e sp_] X.env = [(true, eval e X.env)] := by rfl) :
    PE X (.Call (.Name x p) [.Starred e sp_] [] pos) (lift X.K B (qCallF φ (qStar te qNil))) :=
  weakE (pe_callSA F hb hk hg hm hx he hd hst) fun σ H Q h => by
    obtain ⟨G, F0, ρ, P, k, h, q⟩ := lift_callF (E := E) hn h
    refine lift_use k h fun r ρ1 v H1 F1 h1 k1 w1 e1 => ?_
    split at h1
    · rename_i ds g
      rw [g] at w1
      cases w1 with
      | lst hh rr => exact ⟨_, _, rfl, .inr (.inl (.inl (k1.2.f _ _ hh))), by have z := q _ _ _ _ _ h1 k1 (WsOk.app rr .nil) e1; rw [List.append_nil, List.append_nil] at z; exact z⟩
    · rename_i ds g
      rw [g] at w1
      cases w1 with
      | tup hh rr => exact ⟨_, _, rfl, .inl (same_t k1.2.f hh), by have z := q _ _ _ _ _ h1 k1 (WsOk.app rr .nil) e1; rw [List.append_nil, List.append_nil] at z; exact z⟩
    · exact h1.elim
end

/-! ### the law's own end: its def is called where no repr is under way -/
section
open PyProof.Rows
variable {P : Program} {w : World} {K : PySem.W.Frag} {mg mb : Str → Option Value} {base : Heap}
/-- a def's promise, told where it is called at callerA -/
def RunAt (P : Program) (w : World) (K : PySem.W.Frag) (mg : Str → Option Value) (base : Heap) (CX : CXT) (f : Addr) (sp : Sp) : Prop :=
  ∀ (s : Shared) (H : Hp) (a : Addr) (Q : VK) (E : XK), Env0 P w K mg base callerA [] s H → sp [.ref a] H Q E → codeAny (model P w) callerA (.call (.ref f) ⟨[.ref a], []⟩) (CR CX [] P w H s Q E) s
theorem lawCall {CX : CXT} {fa a : Addr} {sp : Sp} {s₁ : Shared} {vs : List Value} {ns : List Int}
    (KX : K.In s₁.heap) (hns : s₁.heap.Ns mainGlobals mg) (hb : s₁.heap.Ns builtinsNs mb) (hbb : ∀ x : Str, x ≠ "__name__" → mb x = bootBuiltins x) (nl : s₁.heap.NoLimit) (hg : s₁.gens = #[])
    (ha : s₁.heap.get? a = some { cls := .type "list", data := .seq vs.toArray }) (hi : IntsAre vs ns) (hl : ns.length ≤ sizeLine)
    (F : ∀ base : Heap, K.In base → base.Ns mainGlobals mg → RunAt P w K mg base CX fa sp)
    (hsp : ∀ H : Hp, Only H → SqL K H a (ns.map V.int) → sp [.ref a] H (fun v _ => v = .bl true) fun _ _ _ => False) (hCX : ∀ H e s', CX [] H s₁ (fun _ _ _ => False) e s' → False) :
    codeAny (model P w) callerA (.call (.ref fa) ⟨[.ref a], []⟩) (fun r s' => r = .ok (.ret (.bool true)) ∧ OldK s₁.heap s'.heap ∧ s'.os = s₁.os ∧ AllBare s'.gens) s₁ := by
  have rv := vals_ints hi
  have hlen := hi.length
  have go : ∀ H : Hp, Only H → SqL K H a (ns.map V.int) → HOk P w H s₁.heap → (∀ b, H b ≠ none → b = a ∧ K.lookup a = none) →
      codeAny (model P w) callerA (.call (.ref fa) ⟨[.ref a], []⟩) (fun r s' => r = .ok (.ret (.bool true)) ∧ OldK s₁.heap s'.heap ∧ s'.os = s₁.os ∧ AllBare s'.gens) s₁ := by
    intro H only sq hok hA
    have keepD : ∀ {b : Addr} {m : Str → Option Value}, s₁.heap.Ns b m → (hidT s₁.heap H).Ns b m := fun {b m} ⟨o, es, ep, e, d, z⟩ => by
      refine ⟨o, es, ep, hidT_get e ?_, d, z⟩
      cases q : H b with
      | none => rfl
      | some u =>
        obtain ⟨rfl, _⟩ := hA b (by rw [q]; exact fun z => nomatch z)
        rw [ha] at e
        cases e
        exact nomatch d
    have inK : K.In (hidT s₁.heap H) := fun b o e => by
      refine hidT_get (KX b o e) ?_
      cases q : H b with
      | none => rfl
      | some u =>
        obtain ⟨rfl, n⟩ := hA b (by rw [q]; exact fun z => nomatch z)
        rw [n] at e
        cases e
    obtain ⟨mc, n1, n2⟩ := nl
    have e0 : Env0 P w K mg (hidT s₁.heap H) callerA [] s₁ H := ⟨rfl, ⟨inK, keepD hns, ⟨mb, keepD hb, hbb⟩, ⟨mc, keepD n1, n2⟩⟩, fun b o e => of_hidT e, Nat.le_of_eq (hidT_size _ _), trivial, (fun b z => nomatch z), hok, .of_eq hg⟩
    refine codeAny_mono (F _ inK (keepD hns) s₁ H a _ _ e0 (hsp H only sq)) fun r s' h => ?_
    match r, h with
    | .error e, h => exact (hCX H e s' h).elim
    | .ok (.ret u), h =>
      obtain ⟨v, H', os, bare, un, hok', r', q⟩ := h
      obtain rfl : v = .bl true := q
      obtain rfl : u = Value.bool true := r'
      refine ⟨rfl, OldK.of_keep fun b o e => ?_, os, bare⟩
      rcases only b with z | z
      · exact un.keep b o e z (List.not_mem_nil) (List.not_mem_nil)
      · obtain ⟨ob, xs, z⟩ := z
        have g1 := (hok b _ z).1
        rw [e] at g1
        cases g1
        exact (hok' b _ (un.frzs b _ _ z)).1
    | .ok .next, h => exact False.elim h
    | .ok .brk, h => exact False.elim h
    | .ok .cont, h => exact False.elim h
  cases hk : K.lookup a with
  | some o =>
    have e := KX a o hk
    rw [ha] at e
    cases e
    exact go (fun _ => none) (fun _ => .inl rfl) (.inr ⟨_, vs.toArray, _, hk, rfl, rfl, rfl, by rw [List.size_toArray, hlen]; exact hl, by simpa using rv⟩) (fun b u z => nomatch z) fun b z => (z rfl).elim
  | none =>
    have at_ : ∀ b, (if b = a then some (HO.frz { cls := .type "list", data := .seq vs.toArray } (.lst (ns.map V.int))) else none) ≠ none → b = a := fun b z => by
      by_cases h : b = a
      · exact h
      · rw [if_neg h] at z
        exact (z rfl).elim
    refine go (fun b => if b = a then some (.frz { cls := .type "list", data := .seq vs.toArray } (.lst (ns.map V.int))) else none) (fun b => ?_) (.inl (.inr ⟨_, if_pos rfl⟩)) (fun b u z => ?_) fun b z => ⟨at_ b z, hk⟩
    · by_cases h : b = a
      · exact .inr ⟨_, _, if_pos h⟩
      · exact .inl (if_neg h)
    · obtain rfl := at_ b (by intro q; exact nomatch (z.symm.trans q))
      have z' := (if_pos rfl).symm.trans z
      cases z'
      exact ⟨ha, by rw [List.length_map]; exact hl, vs, _, rv, ha⟩
end
/-- the head's goal, the law told where it is called -/
theorem walkAt {l : PySem.W.OpenLaw} {n : Nat} {q : Program} {loose : List Str} {XP : (Str → Option Value) → Heap → Prop} {YP : World → Heap → Prop} {d : DefRec} {K : Params → PySem.W.Frag} {CX : World → CXT} {sp : World → Sp}
    (hn : l.most = some n) (hn2 : n ≤ sizeLine) (hdf : d.params.defaults = []) (hY : ∀ (w : World) (h : Heap), YP w h → (K w.params).In h)
    (F : ∀ (w : World) (mg : Str → Option Value) (fa : Addr) (h : Heap), (K w.params).In h → h.Ns mainGlobals mg → mg d.name = some (.ref fa) → ∀ base : Heap, (K w.params).In base → base.Ns mainGlobals mg → RunAt l.prog w (K w.params) mg base (CX w) fa (sp w))
    (hsp : ∀ (w : World) (H : Hp) (a : Addr) (ns : List Int), ns.length ≤ n → Only H → SqL (K w.params) H a (ns.map V.int) → sp w [.ref a] H (fun v _ => v = .bl true) fun _ _ _ => False)
    (hCX : ∀ (w : World) (H : Hp) (s : Shared) (e : Value) (s' : Shared), CX w [] H s (fun _ _ _ => False) e s' → False) : PySem.W.WalkO q loose XP YP l.row.toRowW d [] (fun f vs => PySem.call f vs) := by
  refine Att.attach_call hn hdf fun w s₀ s₁ mg mb fa o pm cd doc a vs ns G Y ho hd hcd hmg hobj hints hlen hg => ?_
  have KX := hY w _ Y
  exact lawCall KX G.T.g G.T.b G.T.builtins G.T.nolimit hg hobj hints (Nat.le_trans hlen hn2) (F w mg fa _ KX G.T.g hmg) (fun H hO hS => hsp w H a ns hlen hO hS) fun H e s' => hCX w H s₁ e s'
end PL

set_option Elab.async false
set_option linter.all false
set_option maxRecDepth 100000
/-! PL, part 11: defs as bundles; facts about data; texts as lists of signs. -/
namespace PL
open PySem PySem.Spec L2

/-- a def of the text, by data: where it stands, how it binds, what it promises -/
structure Cal (P : Program) (w : World) (K : PySem.W.Frag) (mg : Str → Option Value) (base : Heap) (B : Box) (k : Nat) (x : Str) (ps : List Str) (n : Nat) (φ : List T → (T → Prop) → Prop) : Prop where
  ex : ∃ f fd, mg x = some (.ref f) ∧ PySem.W.keepIn K (.ref f) = true ∧ Binds K fd ps [] ∧ FnG P w K mg base CX0 k f fd ps (spP K B.bare n φ)
  len : ∀ ts Q, φ ts Q → ts.length = n
theorem Cal.to {P : Program} {w : World} {K : PySem.W.Frag} {mg : Str → Option Value} {base : Heap} {B B' : Box} {k : Nat} {x : Str} {ps : List Str} {n : Nat} {φ : List T → (T → Prop) → Prop} (c : Cal P w K mg base B k x ps n φ) (h : B.bare = B'.bare) : Cal P w K mg base B' k x ps n φ := ⟨h ▸ c.ex, c.len⟩
/-- the same, called by keywords -/
structure CalK (P : Program) (w : World) (K : PySem.W.Frag) (mg : Str → Option Value) (base : Heap) (B : Box) (k : Nat) (x : Str) (ps : List Str) (n : Nat) (φ : List T → (T → Prop) → Prop) (ks : List Str) (n0 : Nat) (is : List Nat) : Prop where
  ex : ∃ f fd, mg x = some (.ref f) ∧ PySem.W.keepIn K (.ref f) = true ∧ KB K fd ps ks n0 is ∧ FnG P w K mg base CX0 k f fd ps (spP K B.bare n φ)
  len : ∀ ts Q, φ ts Q → ts.length = n
theorem CalK.to {P : Program} {w : World} {K : PySem.W.Frag} {mg : Str → Option Value} {base : Heap} {B B' : Box} {k : Nat} {x : Str} {ps ks : List Str} {n n0 : Nat} {is : List Nat} {φ : List T → (T → Prop) → Prop} (c : CalK P w K mg base B k x ps n φ ks n0 is) (h : B.bare = B'.bare) : CalK P w K mg base B' k x ps n φ ks n0 is := ⟨h ▸ c.ex, c.len⟩
section
variable {X : Cx} {B : Box} {kk n n0 : Nat} {x : Str} {ps ks : List Str} {is : List Nat} {φ : List T → (T → Prop) → Prop} {E : XK} {p pos : Pos} {e : Expr} {es : List Expr} {te : QE} {t tk : QA} {kws : List Keyword}
theorem q_cF (C : Cal X.prog X.w X.K X.mg X.base B kk x ps n φ) (hr : RoomG kk X.A) (hg : Gl X x) (ha : PA X (e :: es) (liftA X.K B t)) (hx : Passes CX0 X E := by exact pass0) (hd : (x == ("__debug__" : Str)) = false := by decide) (he : starEach (e :: es) X.env = (false, eval e X.env) :: starEach es X.env := by rfl) (hpl : (backTo pos (starEach es X.env)).any (·.1) = false := by rfl) :
    PE X (.Call (.Name x p) (e :: es) [] pos) (lift X.K B (qCallF φ t)) :=
  let ⟨_, _, h1, h2, h3, h4⟩ := C.ex
  q_callF (h4 X.A hr) C.len hg h1 h2 h3 hx ha hd he hpl
theorem q_cU {i : Nat} {y : Str} {py : Pos} (C : Cal X.prog X.w X.K X.mg X.base B kk x ps n φ) (hr : RoomG kk X.A) (hg : Gl X x) (hv : PE X (.Name y py) (tVar i)) (ha : PA X es (liftA X.K B t)) (hx : Passes CX0 X E := by exact pass0) (hd : (x == ("__debug__" : Str)) = false := by decide) (hs : starEach (.Name y py :: es) X.env = (false, eval (.Name y py) X.env) :: starEach es X.env := by rfl) (hpl : (backTo pos (starEach es X.env)).any (·.1) = false := by rfl) :
    PE X (.Call (.Name x p) (.Name y py :: es) [] pos) (lift X.K B (qCallB i φ t)) :=
  let ⟨_, _, h1, h2, h3, h4⟩ := C.ex
  q_callU (h4 X.A hr) C.len hg h1 h2 h3 hx hv ha hd hs hpl
theorem q_cS {sp_ : Pos} (C : Cal X.prog X.w X.K X.mg X.base B kk x ps n φ) (hr : RoomG kk X.A) (hg : Gl X x) (he : PE X e (lift X.K B te)) (hx : Passes CX0 X E := by exact pass0) (hd : (x == ("__debug__" : Str)) = false := by decide) (hst : starEach [.Starred e sp_] X.env = [(true, eval e X.env)] := by rfl) :
    PE X (.Call (.Name x p) [.Starred e sp_] [] pos) (lift X.K B (qCallF φ (qStar te qNil))) :=
  let ⟨_, _, h1, h2, h3, h4⟩ := C.ex
  q_callS (h4 X.A hr) C.len hg h1 h2 h3 hx he hd hst
theorem q_cK0 (C : CalK X.prog X.w X.K X.mg X.base B kk x ps n φ ks 0 is) (hr : RoomG kk X.A) (hg : Gl X x) (hkw : PK X kws (liftA X.K B tk)) (hx : Passes CX0 X E := by exact pass0) (hall : (backToKw pos (keywordEach kws X.env)).all (·.1.isSome) = true := by rfl) (hks : (backToKw pos (keywordEach kws X.env)).filterMap (·.1) = ks := by rfl) (hdb : (x == ("__debug__" : Str)) = false := by decide)
    (hpl : ((backTo pos (starEach [] X.env)).any (·.1) || (backToKw pos (keywordEach kws X.env)).any (·.1.isNone)) = false := by rfl) :
    PE X (.Call (.Name x p) [] kws pos) (lift X.K B (qCallF φ (qKw 0 ks.length is qNil tk))) :=
  let ⟨_, _, h1, h2, h3, h4⟩ := C.ex
  q_callK0 (h4 X.A hr) C.len hg h1 h2 h3 hx hkw hall hks hdb hpl
theorem q_cK (C : CalK X.prog X.w X.K X.mg X.base B kk x ps n φ ks n0 is) (hr : RoomG kk X.A) (hg : Gl X x) (ha : PA X (e :: es) (liftA X.K B t)) (hkw : PK X kws (liftA X.K B tk)) (hx : Passes CX0 X E := by exact pass0) (hall : (backToKw pos (keywordEach kws X.env)).all (·.1.isSome) = true := by rfl) (hks : (backToKw pos (keywordEach kws X.env)).filterMap (·.1) = ks := by rfl) (hdb : (x == ("__debug__" : Str)) = false := by decide)
    (he : starEach (e :: es) X.env = (false, eval e X.env) :: starEach es X.env := by rfl) (hpl : ((backTo pos (starEach (e :: es) X.env)).any (·.1) || (backToKw pos (keywordEach kws X.env)).any (·.1.isNone)) = false := by rfl) :
    PE X (.Call (.Name x p) (e :: es) kws pos) (lift X.K B (qCallF φ (qKw n0 ks.length is t tk))) :=
  let ⟨_, _, h1, h2, h3, h4⟩ := C.ex
  q_callK (h4 X.A hr) C.len hg h1 h2 h3 hx ha hkw hall hks hdb he hpl
theorem q_gI {i : Int} (hg : Gl X x) (hm : ∃ t, X.mg x = some (.int i t)) (hd : (x == ("__debug__" : Str)) = false := by decide) : PE X (.Name x pos) (lift X.K B (qC (.int i))) :=
  let ⟨t, h⟩ := hm
  weakE (pe_glob (v := .int i) hg h ⟨t, rfl⟩ hd) fun _ _ _ => lift_c fun _ => .int i
end

/-! ### data that can be laid, of a small depth -/
def Lay (k : Nat) (d : D) : Prop := d.canLay0 = true ∧ d.depth ≤ k
theorem lay_all {k : Nat} : ∀ {ds : List D}, (∀ d ∈ ds, Lay k d) → PyData.canLayAll0 ds = true ∧ PyData.depthAll ds ≤ k
  | [], _ => ⟨rfl, Nat.zero_le _⟩
  | d :: ds, h => by
    obtain ⟨h1, h2⟩ := h d List.mem_cons_self
    obtain ⟨h3, h4⟩ := lay_all fun e he => h e (List.mem_cons_of_mem _ he)
    exact ⟨by simp [PyData.canLayAll0, h1, h3], by simp only [PyData.depthAll]; omega⟩
theorem lay_list {k : Nat} {ds : List D} (h : ∀ d ∈ ds, Lay k d) : Lay (k + 1) (.list ds) := by
  obtain ⟨h1, h2⟩ := lay_all h
  exact ⟨by simpa [PyData.canLay0] using h1, by simp only [PyData.depth]; omega⟩
theorem lay_tup {k : Nat} {ds : List D} (h : ∀ d ∈ ds, Lay k d) : Lay (k + 1) (.tuple ds) := by
  obtain ⟨h1, h2⟩ := lay_all h
  exact ⟨by simpa [PyData.canLay0] using h1, by simp only [PyData.depth]; omega⟩
theorem lay_int {k : Nat} (i : Int) : Lay k (.int i) := ⟨by simp [PyData.canLay0], by simp [PyData.depth]⟩
theorem lay_bool {k : Nat} (i : Bool) : Lay k (.bool i) := ⟨by simp [PyData.canLay0], by simp [PyData.depth]⟩
theorem lay_none {k : Nat} : Lay k .none := ⟨by simp [PyData.canLay0], by simp [PyData.depth]⟩
theorem lay_str {k : Nat} {x : Str} (h : PyData.strOk x = true) : Lay k (.str x) := ⟨by simpa [PyData.canLay0] using h, by simp [PyData.depth]⟩
theorem Lay.mono {k k' : Nat} {d : D} (h : Lay k d) (hk : k ≤ k') : Lay k' d := ⟨h.1, Nat.le_trans h.2 hk⟩
theorem Lay.shaped {k : Nat} {d : D} (h : Lay k d) (hk : k ≤ 64 := by decide) : SeqAt.shaped d = true := by
  simp [SeqAt.shaped, h.1, Nat.le_trans h.2 hk]
theorem Lay.nod {k : Nat} {d : D} (h : Lay k d) : nod d = true := nod_of d h.1
mutual
theorem noDict_of : ∀ d : D, d.canLay0 = true → d.hasDict = false
  | .none, _ => by simp only [PyData.hasDict]
  | .bool _, _ => by simp only [PyData.hasDict]
  | .int _, _ => by simp only [PyData.hasDict]
  | .str _, _ => by simp only [PyData.hasDict]
  | .list xs, h => by simpa [PyData.hasDict] using noDictAll_of xs (by simpa [PyData.canLay0] using h)
  | .tuple xs, h => by simpa [PyData.hasDict] using noDictAll_of xs (by simpa [PyData.canLay0] using h)
  | .dict _, h => by simp [PyData.canLay0] at h
theorem noDictAll_of : ∀ xs : List D, PyData.canLayAll0 xs = true → PyData.hasDictAll xs = false
  | [], _ => by simp only [PyData.hasDictAll]
  | x :: xs, h => by
    have h' : x.canLay0 = true ∧ PyData.canLayAll0 xs = true := by simpa [PyData.canLayAll0] using h
    simp only [PyData.hasDictAll, noDict_of x h'.1, noDictAll_of xs h'.2, Bool.or_self]
end
/-! data without bools: == is equality -/
mutual
def nob : D → Bool
  | .bool _ => false
  | .dict _ => false
  | .list xs => nobAll xs
  | .tuple xs => nobAll xs
  | _ => true
def nobAll : List D → Bool
  | [] => true
  | x :: xs => nob x && nobAll xs
end
mutual
theorem eqv_iff : ∀ d e : D, nob d = true → nob e = true → (PyData.eqv d e = true ↔ d = e)
  | .none, e, _, he => by cases e <;> simp [PyData.eqv, nob] at he ⊢
  | .int i, e, _, he => by cases e <;> simp [PyData.eqv, nob] at he ⊢
  | .str i, e, _, he => by cases e <;> simp [PyData.eqv, nob] at he ⊢
  | .list xs, e, h, he => by
    cases e <;> simp [PyData.eqv, nob] at he h ⊢
    exact eqvAll_iff _ _ h he
  | .tuple xs, e, h, he => by
    cases e <;> simp [PyData.eqv, nob] at he h ⊢
    exact eqvAll_iff _ _ h he
  | .bool _, _, h, _ => by simp [nob] at h
  | .dict _, _, h, _ => by simp [nob] at h
theorem eqvAll_iff : ∀ ds es : List D, nobAll ds = true → nobAll es = true → (PyData.eqvAll ds es = true ↔ ds = es)
  | [], [], _, _ => by simp [PyData.eqvAll]
  | [], _ :: _, _, _ => by simp [PyData.eqvAll]
  | _ :: _, [], _, _ => by simp [PyData.eqvAll]
  | d :: ds, e :: es, h, he => by
    simp only [nobAll, Bool.and_eq_true] at h he
    simp only [PyData.eqvAll, Bool.and_eq_true, List.cons.injEq]
    rw [eqv_iff d e h.1 he.1, eqvAll_iff ds es h.2 he.2]
end
theorem nobAll_iff : ∀ {ds : List D}, nobAll ds = true ↔ ∀ d ∈ ds, nob d = true
  | [] => by simp [nobAll]
  | d :: ds => by simp [nobAll, nobAll_iff (ds := ds)]
theorem eqv_eq {d e : D} (h : nob d = true) (he : nob e = true) [Decidable (d = e)] : PyData.eqv d e = decide (d = e) := by
  rw [Bool.eq_iff_iff, eqv_iff d e h he]
  simp
/-! ### ints in lists -/
def nats (ns : List Nat) : List D := ns.map fun n => .int (n : Nat)
theorem nob_nats (ns : List Nat) : nobAll (nats ns) = true := nobAll_iff.mpr fun d h => by
  obtain ⟨n, _, rfl⟩ := List.mem_map.mp h
  simp [nob]
theorem lay_nats {k : Nat} (ns : List Nat) : ∀ d ∈ nats ns, Lay k d := fun d h => by
  obtain ⟨n, _, rfl⟩ := List.mem_map.mp h
  exact lay_int _
theorem nats_inj : ∀ {a b : List Nat}, nats a = nats b → a = b
  | [], [], _ => rfl
  | [], _ :: _, h => by simp [nats] at h
  | _ :: _, [], h => by simp [nats] at h
  | x :: a, y :: b, h => by
    simp only [nats, List.map_cons, List.cons.injEq, PyData.int.injEq] at h
    obtain ⟨h1, h2⟩ := h
    have h3 : a = b := nats_inj h2
    subst h3
    have : x = y := by omega
    rw [this]
/-- one of a list of ints: by value -/
theorem any_nats (ns : List Nat) (n : Nat) : ((nats ns).any fun z => PyData.eqv z (.int (n : Nat))) = decide (n ∈ ns) := by
  rw [Bool.eq_iff_iff, List.any_eq_true, decide_eq_true_eq]
  constructor
  · rintro ⟨z, hz, e⟩
    obtain ⟨m, hm, rfl⟩ := List.mem_map.mp hz
    simp [PyData.eqv] at e
    have : m = n := by omega
    rw [← this]
    exact hm
  · intro h
    exact ⟨.int (n : Nat), List.mem_map.mpr ⟨n, h, rfl⟩, by simp [PyData.eqv]⟩
theorem nats_get {ns : List Nat} {i n : Nat} (h : ns[i]? = some n) : (nats ns)[i]? = some (.int (n : Nat)) := by simp [nats, h]
/-! ### texts -/
theorem sg_tl (l : List Nat) : (sg l).cps.toList = l := rfl
theorem sg_of (x : Str) : sg x.cps.toList = x := rfl
theorem sg_len (l : List Nat) : (sg l).length = l.length := by simp [sg, Str.length]
theorem sg_app (a b : List Nat) : sg a ++ sg b = sg (a ++ b) := TL.ext_tl (by rw [TL.tl_append]; rfl)
theorem sg_inj {a b : List Nat} (h : sg a = sg b) : a = b := congrArg (fun x : Str => x.cps.toList) h
theorem sg_ok {l : List Nat} (h : ∀ c ∈ l, c < 0x110000) : PyData.strOk (sg l) = true := by
  unfold PyData.strOk sg
  simp only [List.all_toArray, List.all_eq_true, decide_eq_true_eq]
  exact h
theorem sg_signs (l : List Nat) : signsD (sg l) = l.map fun c => .str (sg [c]) := by simp [signsD, sg]
theorem sg_cut (l : List Nat) (lo hi : Option Int) : cutS (sg l) lo hi = sg ((l.drop (HT.sIx l.length 0 lo)).take (HT.sIx l.length l.length hi - HT.sIx l.length 0 lo)) := by
  unfold cutS
  rw [sg_len]
  rfl
theorem sub_at (a b : List Nat) (i : Nat) : Builtin.Str.subAt (sg a) (sg b) i = decide ((a.drop i).take b.length = b) := by
  rw [StrLaws.subAt_eq, sg_tl, sg_tl, sg_len]
  rw [Bool.eq_iff_iff]
  simp
theorem sg_starts (a b : List Nat) : Txt.startswith (sg a) (sg b) = decide (b <+: a) := by
  unfold Txt.startswith
  rw [sub_at, sg_len, sg_len, Bool.eq_iff_iff]
  simp only [Bool.and_eq_true, decide_eq_true_eq, List.drop_zero, List.prefix_iff_eq_take]
  constructor
  · rintro ⟨_, h⟩
    exact h.symm
  · intro h
    refine ⟨?_, h.symm⟩
    have := congrArg List.length h
    rw [List.length_take] at this
    omega
theorem infix_at (a b : List Nat) : b <:+: a ↔ ∃ i, i + b.length ≤ a.length ∧ (a.drop i).take b.length = b := by
  constructor
  · rintro ⟨s, t, rfl⟩
    refine ⟨s.length, by simp, ?_⟩
    simp
  · rintro ⟨i, _, h⟩
    refine ⟨a.take i, a.drop (i + b.length), ?_⟩
    rw [← h]
    have e : ((a.drop i).take b.length).length = b.length := by rw [h]
    rw [e, List.append_assoc, ← List.drop_drop, List.take_append_drop, List.take_append_drop]
theorem sg_in (a b : List Nat) : hasStr (sg b) (sg a) = decide (b <:+: a) := by
  unfold hasStr
  rw [Bool.eq_iff_iff, StrLaws.found_iff, decide_eq_true_eq, infix_at]
  simp only [sub_at, sg_len, decide_eq_true_eq]
theorem sg_mul (a : List Nat) (n : Nat) : Txt.mul (sg a) (n : Nat) = sg (List.replicate n a).flatten := by
  have go : ∀ (k : Nat) (acc : Array Nat), ((List.replicate k (sg a).cps).foldl (· ++ ·) acc).toList = acc.toList ++ (List.replicate k a).flatten := fun k => by
    induction k with
    | zero => intro acc; simp
    | succ k ih =>
      intro acc
      rw [List.replicate_succ, List.foldl_cons, ih, List.replicate_succ, List.flatten_cons]
      simp [sg]
  unfold Txt.mul
  split
  · have : n = 0 := by omega
    subst this
    exact TL.ext_tl rfl
  · split
    · rename_i h1 h2
      simp only [Bool.or_eq_true, beq_iff_eq] at h2
      rcases h2 with h2 | h2
      · have : n = 1 := by omega
        subst this
        simp
      · rw [sg_len] at h2
        have : a = [] := List.eq_nil_of_length_eq_zero h2
        subst this
        simp
    · refine TL.ext_tl ?_
      show _ = (List.replicate n a).flatten
      have := go n #[]
      simpa using this
theorem sg_join (xs : List (List Nat)) : Txt.join (sg []) (xs.map sg) = sg xs.flatten := by
  have j : ∀ xs : List (List Nat), TL.joinL [] xs = xs.flatten := fun xs => by
    induction xs with
    | nil => rfl
    | cons x r ih =>
      cases r with
      | nil => simp [TL.joinL]
      | cons y r =>
        show x ++ ([] ++ TL.joinL [] (y :: r)) = _
        rw [ih]
        simp
  refine TL.ext_tl ?_
  rw [TL.join_eq, TL.tl_join]
  show TL.joinL [] ((xs.map sg).map fun x => x.cps.toList) = xs.flatten
  rw [List.map_map]
  have : ((fun x : Str => x.cps.toList) ∘ sg) = id := funext fun l => rfl
  rw [this, List.map_id, j]
theorem occ_stay (s sub : Str) (hi : Nat) : ∀ (l : List Nat) (st : Array Nat × Nat), 1 ≤ st.fst.size → (forIn l st (StrLaws.occBody s sub hi 1)).run.fst = st.fst
  | [], st, _ => rfl
  | a :: l, st, h => by
    rw [List.forIn_cons]
    unfold StrLaws.occBody
    rw [if_neg (fun z => by have := z.1.1.1; omega)]
    exact occ_stay s sub hi l _ h
theorem occ_first (s sub : Str) (hi : Nat) (i : Nat) (post : List Nat) (hm : i + sub.length ≤ hi ∧ Builtin.Str.subAt s sub i = true) : ∀ (pre : List Nat) (free : Nat), free ≤ i → (∀ j ∈ pre, ¬ (j + sub.length ≤ hi ∧ Builtin.Str.subAt s sub j = true)) →
    (forIn (pre ++ i :: post) ((#[] : Array Nat), free) (StrLaws.occBody s sub hi 1)).run.fst = #[i]
  | [], free, hf, _ => by
    rw [List.nil_append, List.forIn_cons]
    unfold StrLaws.occBody
    rw [if_pos ⟨⟨⟨by simp, hf⟩, hm.1⟩, hm.2⟩]
    exact occ_stay s sub hi post _ (by simp)
  | a :: pre, free, hf, hn => by
    rw [List.cons_append, List.forIn_cons]
    unfold StrLaws.occBody
    rw [if_neg (fun z => hn a List.mem_cons_self ⟨z.1.2, z.2⟩)]
    exact occ_first s sub hi i post hm pre free hf fun j hj => hn j (List.mem_cons_of_mem _ hj)
theorem sg_index {a : List Nat} {c i : Nat} (h : a[i]? = some c) (hn : ∀ j, j < i → a[j]? ≠ some c) : ∃ rest, Builtin.Str.occurrences (sg a) (sg [c]) 0 (sg a).length 1 = i :: rest := by
  have one : ∀ j, ((j + (sg [c]).length ≤ (sg a).length ∧ Builtin.Str.subAt (sg a) (sg [c]) j = true) ↔ a[j]? = some c) := fun j => StrLaws.subAt_one (sg a) c j
  have hl : i < a.length := (List.getElem?_eq_some_iff.mp h).1
  refine ⟨[], ?_⟩
  rw [StrLaws.occ_eq, sg_len]
  have e : List.range' 0 (a.length + 1 - 0) = List.range' 0 i ++ i :: List.range' (i + 1) (a.length - i) := by
    rw [← List.range'_succ, show a.length + 1 - 0 = i + (a.length - i + 1) by omega, ← List.range'_append]
    simp
  rw [e, occ_first (sg a) (sg [c]) a.length i _ (by have := (one i).mpr h; rwa [sg_len] at this) (List.range' 0 i) 0 (Nat.zero_le _) fun j hj z => hn j (by simp [List.mem_range'] at hj; omega) ((one j).mp (by rwa [sg_len (l := a)]))]
end PL

set_option Elab.async false
set_option linter.all false
set_option maxRecDepth 100000
/-! PL, part 12: comprehensions told by their result. -/
namespace PL
open PySem PySem.Spec L2
section
variable {g : QG} {te : QE} {tt : QT} {vs : List Nat} {ρ0 : Env} {ds : List D} {Q : T → Env → Prop}
/-- [e for x in xs] -/
theorem lc_map (out : List D) (hb : barePl ρ0 vs) (hl : out.length = ds.length) (hz : ds.length ≤ sizeLine)
    (step : ∀ (i : Nat) (d o : D), ds[i]? = some d → out[i]? = some o → ∀ R : T → Env → Prop, (∀ r ρ4, r.dat = some o → wipeP ρ4 vs = wipeP ρ0 vs → R r ρ4) → g (.d d) (wipeP ρ0 vs) fun ρ2 => te ρ2 R) (fin : Q (.l out) ρ0) :
    barePl ρ0 vs ∧ ∃ I : Nat → List D → Prop, I 0 [] ∧
      (∀ i d acc, ds[i]? = some d → I i acc → g (.d d) (wipeP ρ0 vs) fun ρ2 => qYes ρ2 fun b ρ3 => if b = true then te ρ3 fun r ρ4 => ∃ d', r.dat = some d' ∧ wipeP ρ4 vs = wipeP ρ0 vs ∧ acc.length < sizeLine ∧ I (i + 1) (acc ++ [d'])
        else wipeP ρ3 vs = wipeP ρ0 vs ∧ I (i + 1) acc) ∧ ∀ acc, I ds.length acc → Q (.l acc) ρ0 := by
  refine ⟨hb, fun i acc => acc = out.take i, rfl, fun i d acc hd ha => ?_, fun acc ha => ?_⟩
  · have hi := (List.getElem?_eq_some_iff.mp hd).1
    have ho : out[i]? = some out[i] := List.getElem?_eq_getElem (by omega)
    have := step i d _ hd ho (fun r ρ4 => ∃ d', r.dat = some d' ∧ wipeP ρ4 vs = wipeP ρ0 vs ∧ acc.length < sizeLine ∧ acc ++ [d'] = out.take (i + 1)) fun r ρ4 h1 h2 => ⟨_, h1, h2, by rw [ha, List.length_take]; omega, by rw [ha, List.take_add_one, ho]; rfl⟩
    simpa only [qYes, if_true] using this
  · rw [ha, ← hl, List.take_length]
    exact fin
/-- [e for x in xs if t] -/
def pickD (f : Nat → D → Option D) (ds : List D) (i : Nat) : List D := (List.range i).filterMap fun j => (ds[j]?).bind (f j)
theorem pickD_len (f : Nat → D → Option D) (ds : List D) (i : Nat) : (pickD f ds i).length ≤ i := by
  have := List.length_filterMap_le (fun j => (ds[j]?).bind (f j)) (List.range i)
  simpa [pickD] using this
theorem lc_pick (f : Nat → D → Option D) (hb : barePl ρ0 vs) (hz : ds.length ≤ sizeLine)
    (step : ∀ (i : Nat) (d : D), ds[i]? = some d → ∀ (R : T → Env → Prop) (R0 : Env → Prop), (∀ r ρ4 o, f i d = some o → r.dat = some o → wipeP ρ4 vs = wipeP ρ0 vs → R r ρ4) → (∀ ρ3, f i d = none → wipeP ρ3 vs = wipeP ρ0 vs → R0 ρ3) → g (.d d) (wipeP ρ0 vs) fun ρ2 => tt ρ2 fun b ρ3 => if b = true then te ρ3 R else R0 ρ3) (fin : Q (.l (pickD f ds ds.length)) ρ0) :
    barePl ρ0 vs ∧ ∃ I : Nat → List D → Prop, I 0 [] ∧
      (∀ i d acc, ds[i]? = some d → I i acc → g (.d d) (wipeP ρ0 vs) fun ρ2 => tt ρ2 fun b ρ3 => if b = true then te ρ3 fun r ρ4 => ∃ d', r.dat = some d' ∧ wipeP ρ4 vs = wipeP ρ0 vs ∧ acc.length < sizeLine ∧ I (i + 1) (acc ++ [d'])
        else wipeP ρ3 vs = wipeP ρ0 vs ∧ I (i + 1) acc) ∧ ∀ acc, I ds.length acc → Q (.l acc) ρ0 := by
  refine ⟨hb, fun i acc => acc = pickD f ds i, rfl, fun i d acc hd ha => ?_, fun acc ha => by rw [ha]; exact fin⟩
  have hi := (List.getElem?_eq_some_iff.mp hd).1
  have hp := pickD_len f ds i
  refine step i d hd _ _ (fun r ρ4 o h0 h1 h2 => ⟨_, h1, h2, by rw [ha]; omega, ?_⟩) fun ρ3 h0 h2 => ⟨h2, ?_⟩
  · show acc ++ [o] = pickD f ds (i + 1)
    rw [ha]
    unfold pickD
    rw [List.range_succ, List.filterMap_append]
    simp [hd, h0]
  · show acc = pickD f ds (i + 1)
    rw [ha]
    unfold pickD
    rw [List.range_succ, List.filterMap_append]
    simp [hd, h0]
end
section
variable {g : QG} {te : QE} {tt : QT} {ti : QI} {tb : QS} {vs : List Nat} {ρ ρ0 : Env} {ds : List D} {Q : T → Env → Prop}
theorem lc_mapT (ds : List D) (ρ0 : Env) (out : List D) (h1 : ∀ R : List D → Env → Prop, R ds ρ0 → ti ρ R) (hb : barePl ρ0 vs) (hl : out.length = ds.length) (hz : ds.length ≤ sizeLine)
    (step : ∀ (i : Nat) (d o : D), ds[i]? = some d → out[i]? = some o → ∀ R : T → Env → Prop, (∀ r ρ4, r.dat = some o → wipeP ρ4 vs = wipeP ρ0 vs → R r ρ4) → g (.d d) (wipeP ρ0 vs) fun ρ2 => te ρ2 R) (fin : Q (.l out) ρ0) : qLc ti g qYes te vs ρ Q :=
  h1 _ (lc_map out hb hl hz step fin)
theorem lc_pickT (ds : List D) (ρ0 : Env) (f : Nat → D → Option D) (h1 : ∀ R : List D → Env → Prop, R ds ρ0 → ti ρ R) (hb : barePl ρ0 vs) (hz : ds.length ≤ sizeLine)
    (step : ∀ (i : Nat) (d : D), ds[i]? = some d → ∀ (R : T → Env → Prop) (R0 : Env → Prop), (∀ r ρ4 o, f i d = some o → r.dat = some o → wipeP ρ4 vs = wipeP ρ0 vs → R r ρ4) → (∀ ρ3, f i d = none → wipeP ρ3 vs = wipeP ρ0 vs → R0 ρ3) → g (.d d) (wipeP ρ0 vs) fun ρ2 => tt ρ2 fun b ρ3 => if b = true then te ρ3 R else R0 ρ3) (fin : Q (.l (pickD f ds ds.length)) ρ0) : qLc ti g tt te vs ρ Q :=
  h1 _ (lc_pick f hb hz step fin)
theorem lc_mapS (ds : List D) (out : List D) (h1 : ∀ R : List D → Env → Prop, R ds ρ → ti ρ R) (hb : barePl ρ vs) (hl : out.length = ds.length) (hz : ds.length ≤ sizeLine)
    (step : ∀ (i : Nat) (d o : D), ds[i]? = some d → out[i]? = some o → ∀ R : T → Env → Prop, (∀ r ρ4, r.dat = some o → wipeP ρ4 vs = wipeP ρ vs → R r ρ4) → g (.d d) (wipeP ρ vs) fun ρ2 => te ρ2 R) (fin : Q (.l out) ρ) : qLc ti g qYes te vs ρ Q :=
  lc_mapT ds ρ out h1 hb hl hz step fin
theorem lc_pickS (ds : List D) (f : Nat → D → Option D) (h1 : ∀ R : List D → Env → Prop, R ds ρ → ti ρ R) (hb : barePl ρ vs) (hz : ds.length ≤ sizeLine)
    (step : ∀ (i : Nat) (d : D), ds[i]? = some d → ∀ (R : T → Env → Prop) (R0 : Env → Prop), (∀ r ρ4 o, f i d = some o → r.dat = some o → wipeP ρ4 vs = wipeP ρ vs → R r ρ4) → (∀ ρ3, f i d = none → wipeP ρ3 vs = wipeP ρ vs → R0 ρ3) → g (.d d) (wipeP ρ vs) fun ρ2 => tt ρ2 fun b ρ3 => if b = true then te ρ3 R else R0 ρ3) (fin : Q (.l (pickD f ds ds.length)) ρ) : qLc ti g tt te vs ρ Q :=
  lc_pickT ds ρ f h1 hb hz step fin
theorem forT {DP : PEnds} (ds : List D) (ρ0 : Env) (I : Nat → Env → Prop) (h1 : ∀ R : List D → Env → Prop, R ds ρ0 → ti ρ R) (h0 : I 0 ρ0)
    (step : ∀ i d ρ, ds[i]? = some d → I i ρ → g (.d d) ρ fun ρ' => tb { DP with nx := I (i + 1), ct := I (i + 1), bk := DP.nx } ρ') (fin : ∀ ρ, I ds.length ρ → DP.nx ρ) : sFor ti g tb DP ρ :=
  h1 _ ⟨I, h0, step, fin⟩
end
/-! ### sets and places, by natural numbers -/
def castL (k : List Nat) : List Int := k.map fun n => ((n : Nat) : Int)
theorem tupI_cast (k : List Nat) : tupI (castL k) = .tuple (nats k) := by simp [tupI, castL, nats]
theorem castL_inj {a b : List Nat} (h : castL a = castL b) : a = b := by
  have : (castL a).map Int.toNat = (castL b).map Int.toNat := by rw [h]
  simpa [castL, List.map_map, Function.comp_def] using this
theorem pSortSet_nat {Q : T → Prop} (ks : List (List Nat)) (d : Nat) (hl : ks.length < 64) (hd : 1 ≤ d) (hk : ∀ k ∈ ks, k.length = d ∧ ∀ x ∈ k, x < 64) (q : ∀ L : List (List Nat), L.Nodup → (∀ k, k ∈ L ↔ k ∈ ks) → L.length < 64 → Q (.l (L.map fun k => .tuple (nats k)))) :
    pSortSet (.list (ks.map fun k => .tuple (nats k))) Q := by
  refine ⟨ks.map castL, d, 64, by rw [List.map_map]; exact List.map_congr_left fun k _ => (tupI_cast k).symm, by simpa using hl, hd, fun k h => ?_, fun L nd hm h64 _ => ?_⟩
  · obtain ⟨n, hn, rfl⟩ := List.mem_map.mp h
    refine ⟨by simp [castL, (hk n hn).1], fun x hx => ?_⟩
    obtain ⟨m, hm, rfl⟩ := List.mem_map.mp hx
    have := (hk n hn).2 m hm
    omega
  · have hc : ∀ k ∈ L, castL (k.map Int.toNat) = k := fun k h => by
      obtain ⟨n, hn, rfl⟩ := List.mem_map.mp ((hm k).mp h)
      simp [castL, List.map_map, Function.comp_def]
    have e : (L.map fun k => k.map Int.toNat).map castL = L := by
      rw [List.map_map]
      conv => rhs; rw [← List.map_id L]
      exact List.map_congr_left fun k h => hc k h
    have e2 : L.map tupI = (L.map fun k => k.map Int.toNat).map fun k => .tuple (nats k) := by
      conv => lhs; rw [← e]
      rw [List.map_map]
      exact List.map_congr_left fun k _ => tupI_cast k
    rw [e2]
    refine q _ ?_ (fun k => ?_) (by simpa using h64)
    · rw [← e] at nd
      exact List.pairwise_map.mp nd |>.imp fun h z => h (congrArg castL z)
    · constructor
      · intro h
        have : castL k ∈ L := by rw [← e]; exact List.mem_map.mpr ⟨k, h, rfl⟩
        obtain ⟨n, hn, z⟩ := List.mem_map.mp ((hm _).mp this)
        rw [← castL_inj z]
        exact hn
      · intro h
        have : castL k ∈ L := (hm _).mpr (List.mem_map.mpr ⟨k, h, rfl⟩)
        refine List.mem_map.mpr ⟨_, this, ?_⟩
        simp [castL, List.map_map, Function.comp_def]
theorem pLenSet_nat {Q : T → Prop} (ns : List Nat) (hl : ns.length ≤ 4000) (q : ∀ l : List Nat, l.Nodup → (∀ k, k ∈ l ↔ k ∈ ns) → Q (.d (.int (l.length : Nat)))) : pLenSet (.list (nats ns)) Q := by
  refine ⟨castL ns, by simp [nats, castL], by simpa [castL] using hl, fun l nd hm => ?_⟩
  have hc : ∀ x ∈ l, ((x.toNat : Nat) : Int) = x := fun x h => by
    obtain ⟨n, _, rfl⟩ := List.mem_map.mp ((hm x).mp h)
    simp
  have := q (l.map Int.toNat) (List.pairwise_map.mpr (List.Pairwise.imp_of_mem (fun {a b} ha hb h z => h (by rw [← hc a ha, ← hc b hb, z])) nd)) fun k => by
    constructor
    · intro h
      obtain ⟨x, hx, rfl⟩ := List.mem_map.mp h
      obtain ⟨n, hn, e⟩ := List.mem_map.mp ((hm x).mp hx)
      rw [← e]
      simpa using hn
    · intro h
      exact List.mem_map.mpr ⟨(k : Int), (hm _).mpr (List.mem_map.mpr ⟨k, h, rfl⟩), by simp⟩
  simpa using this
theorem pIndex_of {Q : T → Prop} {ds : List D} {d : D} {j : Nat} (hs : SeqAt.shaped (.list ds) = true) (hd : SeqAt.shaped d = true) (n1 : nobAll ds = true) (n2 : nob d = true) (h : ds[j]? = some d) (hf : ∀ m, m < j → ds[m]? ≠ some d) (q : Q (.d (.int (j : Nat)))) : pIndex (.list ds) d Q :=
  ⟨hs, hd, j, d, h, (eqv_iff d d n2 n2).mpr rfl, fun m z hm hz => by
    cases e : PyData.eqv z d with
    | false => rfl
    | true => exact absurd (by rw [hz, (eqv_iff z d (nobAll_iff.mp n1 z (List.mem_of_getElem? hz)) n2).mp e]) (hf m hm), q⟩
theorem nob_tup {ns : List Nat} : nob (.tuple (nats ns)) = true := by simp only [nob, nob_nats]
theorem nob_int {i : Int} : nob (.int i) = true := by simp [nob]
theorem rows_shaped (rs : List (List Nat)) : SeqAt.shaped (.list (rs.map fun r => .tuple (nats r))) = true :=
  (lay_list (k := 1) fun d h => by
    obtain ⟨r, _, rfl⟩ := List.mem_map.mp h
    exact lay_tup (lay_nats _)).shaped
theorem rows_nob (rs : List (List Nat)) : nobAll (rs.map fun r => .tuple (nats r)) = true := nobAll_iff.mpr fun d h => by
  obtain ⟨r, _, rfl⟩ := List.mem_map.mp h
  exact nob_tup
theorem tup_inj {a b : List Nat} (h : (PyData.tuple (nats a)) = .tuple (nats b)) : a = b := nats_inj (by injection h)
theorem wsD_map : ∀ ds : List D, wsD (ds.map W.d) = some ds
  | [] => rfl
  | d :: ds => by simp [wsD, wsD_map ds]
theorem wsT_map : ∀ ds : List D, wsT (ds.map W.d) = some (ds.map T.d)
  | [] => rfl
  | d :: ds => by simp [wsT, wsT_map ds]
theorem barePl1 {ρ : Env} {i : Nat} {t : T} (h : ρ[i]? = some t) (hb : t.bare) : barePl ρ [i] := fun v hv => by
  obtain rfl := List.mem_singleton.mp hv
  rw [h]
  exact hb
theorem pick_filter {α : Type} (c : Nat → Prop) [DecidablePred c] (ds : List D) : ∀ l : List Nat, (∀ j ∈ l, j < ds.length) → (l.filterMap fun j => (ds[j]?).bind fun _ => if c j then some (PyData.int (j : Nat)) else none) = nats (l.filter fun j => decide (c j))
  | [], _ => rfl
  | j :: l, h => by
    have hj := h j List.mem_cons_self
    have ih := pick_filter (α := α) c ds l fun x hx => h x (List.mem_cons_of_mem _ hx)
    rw [List.filterMap_cons, List.getElem?_eq_getElem hj, Option.bind_some, ih]
    by_cases q : c j
    · simp [q, nats]
    · simp [q]
theorem nats_ne {l : List Nat} {m c : Nat} (h : l[m]? ≠ some c) : (nats l)[m]? ≠ some (.int (c : Nat)) := fun z => by
  cases q : l[m]? with
  | none =>
    rw [nats, List.getElem?_map, q] at z
    cases z
  | some y =>
    rw [nats_get q] at z
    have : y = c := by injection z with z; injection z with z; omega
    exact h (by rw [q, this])
/-! ### cut texts -/
theorem cut_from (l : List Nat) {k : Nat} (h : k ≤ l.length) : cutS (sg l) (some ((k : Nat) : Int)) none = sg (l.drop k) := by
  rw [sg_cut, HT.sIx_nat, HT.sIx_none, Nat.min_eq_left h]
  congr 1
  rw [List.take_of_length_le]
  rw [List.length_drop]
  omega
theorem cut_to (l : List Nat) (k : Nat) : cutS (sg l) none (some ((k : Nat) : Int)) = sg (l.take k) := by
  rw [sg_cut, HT.sIx_nat, HT.sIx_none, List.drop_zero, Nat.sub_zero]
  congr 1
  by_cases h : k ≤ l.length
  · rw [Nat.min_eq_left h]
  · rw [Nat.min_eq_right (by omega), List.take_length, List.take_of_length_le (by omega)]
theorem eqv_sg (a b : List Nat) : PyData.eqv (.str (sg a)) (.str (sg b)) = decide (a = b) := by
  rw [Bool.eq_iff_iff]
  simp only [PyData.eqv, beq_iff_eq, decide_eq_true_eq]
  exact ⟨sg_inj, fun h => by rw [h]⟩
theorem lc_inv {g : QG} {te : QE} {ti : QI} {vs : List Nat} {ρ : Env} {Q : T → Env → Prop} (ds : List D) (ρ0 : Env) (I : Nat → List D → Prop) (h1 : ∀ R : List D → Env → Prop, R ds ρ0 → ti ρ R) (hb : barePl ρ0 vs) (hz : ds.length ≤ sizeLine) (i0 : I 0 []) (hl : ∀ i acc, I i acc → acc.length ≤ i)
    (step : ∀ (i : Nat) (d : D) (acc : List D), ds[i]? = some d → I i acc → ∀ R : T → Env → Prop, (∀ r ρ4 o, r.dat = some o → wipeP ρ4 vs = wipeP ρ0 vs → I (i + 1) (acc ++ [o]) → R r ρ4) → g (.d d) (wipeP ρ0 vs) fun ρ2 => te ρ2 R) (fin : ∀ acc, I ds.length acc → Q (.l acc) ρ0) : qLc ti g qYes te vs ρ Q := by
  refine h1 _ ⟨hb, I, i0, fun i d acc hd ha => ?_, fin⟩
  have hi := (List.getElem?_eq_some_iff.mp hd).1
  have := step i d acc hd ha (fun r ρ4 => ∃ d', r.dat = some d' ∧ wipeP ρ4 vs = wipeP ρ0 vs ∧ acc.length < sizeLine ∧ I (i + 1) (acc ++ [d'])) fun r ρ4 o h1 h2 h3 => ⟨o, h1, h2, by have := hl i acc ha; omega, h3⟩
  simpa only [qYes, if_true] using this
theorem lc_any {g : QG} {te : QE} {tt : QT} {ti : QI} {vs : List Nat} {ρ : Env} {Q : T → Env → Prop} (ρ0 : Env) (DS : List D → Prop) (h1 : ∀ R : List D → Env → Prop, (∀ ds, DS ds → R ds ρ0) → ti ρ R) (h2 : ∀ ds, DS ds → qLc (fun ρ R => R ds ρ) g tt te vs ρ0 Q) : qLc ti g tt te vs ρ Q := h1 _ fun ds h => h2 ds h
theorem for_any {g : QG} {ti : QI} {tb : QS} {ρ : Env} {DP : PEnds} (ρ0 : Env) (DS : List D → Prop) (h1 : ∀ R : List D → Env → Prop, (∀ ds, DS ds → R ds ρ0) → ti ρ R) (h2 : ∀ ds, DS ds → sFor (fun ρ R => R ds ρ) g tb DP ρ0) : sFor ti g tb DP ρ := h1 _ fun ds h => h2 ds h
/-- texts of signs, joined -/
theorem one_signs (cs : List Nat) : (cs.map fun c => sg [c]) = (cs.map fun c => [c]).map sg := by rw [List.map_map]; rfl
theorem flat_ones (cs : List Nat) : (cs.map fun c => [c]).flatten = cs := by induction cs <;> simp_all
theorem join_ones (cs : List Nat) : Txt.join (Str.ofString "") (cs.map fun c => sg [c]) = sg cs := by
  have e : Str.ofString "" = sg [] := rfl
  rw [e, one_signs, sg_join, flat_ones]
theorem sum_ones (cs : List Nat) : ((cs.map fun c => sg [c]).map (·.length)).sum = cs.length := by
  rw [List.map_map]
  induction cs with
  | nil => rfl
  | cons c cs ih =>
    rw [List.map_cons, List.sum_cons, ih]
    simp [sg_len]
    omega
theorem nats_range {n i : Nat} (h : i < n) : (rangeD 0 n)[i]? = some (.int (i : Nat)) := by
  rw [rangeD_get h]
  simp
end PL

set_option Elab.async false
set_option linter.all false
set_option maxRecDepth 100000
/-! PL, part 13: list(zip(a, b)), a and b tuples. -/
namespace PLz
open PySem PySem.Spec L2
section
variable {prog : Program} {w : World} {A : Around} {E : Value → Shared → Prop} {s : Shared} {z TI TO i1 i2 a b : Addr} {k : Nat} {xs ys : Array Value} {x y : Value}
set_option maxHeartbeats 1000000 in
/-- one turn, while the tuple last handed out is still about -/
theorem nextHeld {W : Addr} {fl : Bool} {oW : Obj} {Q : Value → Shared → Prop} (D : ZipApart z TI TO i1 i2 a b) (hz : IsZipHeld s.heap z TI TO W fl) (hW : s.heap.get? W = some oW) (hI : IsPair s.heap TI (.ref i1) (.ref i2))
    (t1 : s.heap.IsTupleIter i1 a k) (t2 : s.heap.IsTupleIter i2 b k) (p1 : s.heap.IsTuple a xs) (p2 : s.heap.IsTuple b ys) (hx : xs[k]? = some x) (hy : ys[k]? = some y)
    (fin : ∀ h', IsZipHeld h' z TI TO W true → h'.IsTupleIter i1 a (k + 1) → h'.IsTupleIter i2 b (k + 1) → IsPair h' s.heap.objs.size x y → (∀ c o, c ≠ z → c ≠ i1 → c ≠ i2 → s.heap.get? c = some o → h'.get? c = some o) → Q (.ref s.heap.objs.size) { s with heap := h' }) :
    wpAny (model prog w) A (Builtin.«zip.__next__» ⟨[.ref z], []⟩) (fun r s' => ∃ v, r = .done (.ret v) ∧ Q v s') E s := by
  show wpAny _ _ (field (.ref z) 2 >>= _) _ _ _
  refine wpAny_bind (wpAny_field hz rfl (x := .bool false) rfl ?_)
  show wpAny _ _ (field (.ref z) 3 >>= _) _ _ _
  refine wpAny_bind (wpAny_field hz rfl (x := .ref TI) rfl (wpAny_bind (wpAny_seqItems hI rfl ?_)))
  show wpAny _ _ (Builtin.SmallTypes.ownedTupleIsFree (.ref z) >>= _) _ _ _
  refine wpAny_bind (wpAny_tupleHeld_zip hz hW fun g1 z1 s1 => ?_)
  simp only [Bool.false_eq_true, if_false]
  refine wpAny_bind ?_
  rw [← Array.forIn_toList]
  simp only [List.forIn_cons, List.forIn_nil]
  refine wpAny_bind (wpAny_bind (wpAny_holding ?_))
  show wpAny _ _ (Builtin.SmallTypes.nextOf (.ref i1) >>= _) _ _ _
  refine wpAny_bind (RZ.nextOf_tuple_item (s := { s with heap := g1 }) (t1.extBut s1.extBut D.i1z) (p1.extBut s1.extBut D.l1z) hx fun g2 u1 s2 => wpAny_pure (wpAny_pure ?_))
  refine wpAny_bind (wpAny_bind (wpAny_holding ?_))
  show wpAny _ _ (Builtin.SmallTypes.nextOf (.ref i2) >>= _) _ _ _
  refine wpAny_bind (RZ.nextOf_tuple_item (s := { s with heap := g2 }) ((t2.extBut s1.extBut D.i2z).extBut s2.extBut D.i12.symm) ((p2.extBut s1.extBut D.l2z).extBut s2.extBut D.l2i1) hy fun g3 u2 s3 => wpAny_pure (wpAny_pure (wpAny_pure ?_)))
  show wpAny _ _ (newTuple [x, y] >>= _) _ _ _
  refine wpAny_bind (wpAny_newTuple (wpAny_pure ⟨_, rfl, ?_⟩))
  have sz : g3.objs.size = s.heap.objs.size := by rw [s3.1, s2.1, s1.1]
  show Q (.ref g3.objs.size) _
  have np : IsPair (g3.push { cls := .type "tuple", data := .seq #[x, y] }) g3.objs.size x y := Heap.get?_push_size _ rfl
  rw [sz] at np ⊢
  exact fin _ (Heap.get?_push_of_some _ (s3.extBut _ _ D.i2z.symm (s2.extBut _ _ D.i1z.symm z1))) ((u1.extBut s3.extBut D.i12).at fun o e => Heap.get?_push_of_some _ e) (u2.at fun o e => Heap.get?_push_of_some _ e) np
    fun c o c1 c2 c3 e => Heap.get?_push_of_some _ (s3.extBut _ _ c3 (s2.extBut _ _ c2 (s1.extBut _ _ c1 e)))
set_option maxHeartbeats 1000000 in
theorem endHeld {W : Addr} {fl : Bool} {oW : Obj} {Q : Fin → Shared → Prop} (hh : A.handled = none) (D : ZipApart z TI TO i1 i2 a b) (hz : IsZipHeld s.heap z TI TO W fl) (hW : s.heap.get? W = some oW) (hI : IsPair s.heap TI (.ref i1) (.ref i2))
    (t1 : s.heap.IsTupleIter i1 a k) (t2 : s.heap.IsTupleIter i2 b k) (p1 : s.heap.IsTuple a xs) (p2 : s.heap.IsTuple b ys) (hend : xs[k]? = none ∨ ys[k]? = none)
    (fin : ∀ h' e, (∀ c o, c ≠ z → c ≠ i1 → c ≠ i2 → s.heap.get? c = some o → h'.get? c = some o) → (∃ o, h'.get? e = some o ∧ o.cls = .type "StopIteration") → E (.ref e) { s with heap := h' }) :
    wpAny (model prog w) A (Builtin.«zip.__next__» ⟨[.ref z], []⟩) Q E s := by
  show wpAny _ _ (field (.ref z) 2 >>= _) _ _ _
  refine wpAny_bind (wpAny_field hz rfl (x := .bool false) rfl ?_)
  show wpAny _ _ (field (.ref z) 3 >>= _) _ _ _
  refine wpAny_bind (wpAny_field hz rfl (x := .ref TI) rfl (wpAny_bind (wpAny_seqItems hI rfl ?_)))
  show wpAny _ _ (Builtin.SmallTypes.ownedTupleIsFree (.ref z) >>= _) _ _ _
  refine wpAny_bind (wpAny_tupleHeld_zip hz hW fun g1 z1 s1 => ?_)
  simp only [Bool.false_eq_true, if_false]
  refine wpAny_bind ?_
  rw [← Array.forIn_toList]
  simp only [List.forIn_cons, List.forIn_nil]
  refine wpAny_bind (wpAny_bind (wpAny_holding ?_))
  show wpAny _ _ (Builtin.SmallTypes.nextOf (.ref i1) >>= _) _ _ _
  cases hx : xs[k]? with
  | none => exact wpAny_bind (RZ.nextOf_tuple_end (s := { s with heap := g1 }) hh (t1.extBut s1.extBut D.i1z) (p1.extBut s1.extBut D.l1z) hx fun g2 e s2 he => fin g2 e (fun c o c1 c2 _ q => s2 _ _ c2 (s1.extBut _ _ c1 q)) he)
  | some x =>
    have hy : ys[k]? = none := hend.resolve_left (by rw [hx]; exact fun q => nomatch q)
    refine wpAny_bind (RZ.nextOf_tuple_item (s := { s with heap := g1 }) (t1.extBut s1.extBut D.i1z) (p1.extBut s1.extBut D.l1z) hx fun g2 u1 s2 => wpAny_pure (wpAny_pure ?_))
    refine wpAny_bind (wpAny_bind (wpAny_holding ?_))
    show wpAny _ _ (Builtin.SmallTypes.nextOf (.ref i2) >>= _) _ _ _
    exact wpAny_bind (RZ.nextOf_tuple_end (s := { s with heap := g2 }) hh ((t2.extBut s1.extBut D.i2z).extBut s2.extBut D.i12.symm) ((p2.extBut s1.extBut D.l2z).extBut s2.extBut D.l2i1) hy fun g3 e s3 he => fin g3 e (fun c o c1 c2 c3 q => s3 _ _ c3 (s2.extBut _ _ c2 (s1.extBut _ _ c1 q))) he)
/-- the zip as it stands: nothing handed out, or a tuple that is still about -/
def Out (h : Heap) (z TI TO i1 i2 : Addr) : Prop := IsZip h z TI TO .none ∨ ∃ W fl oW, IsZipHeld h z TI TO W fl ∧ h.get? W = some oW ∧ W ≠ z ∧ W ≠ TO ∧ W ≠ i1 ∧ W ≠ i2
structure At (h : Heap) (z TI TO i1 i2 a b : Addr) (k : Nat) : Prop where
  out : Out h z TI TO i1 i2
  ti : IsPair h TI (.ref i1) (.ref i2)
  to : ∃ x y, IsPair h TO x y
  t1 : h.IsTupleIter i1 a k
  t2 : h.IsTupleIter i2 b k
theorem At.ty (h : At s.heap z TI TO i1 i2 a b k) : s.TypeIs (.ref z) "zip" := by
  rcases h.out with q | ⟨W, fl, oW, q, _⟩
  · exact ⟨_, q, rfl⟩
  · exact ⟨_, q, rfl⟩
theorem At.keep {h h' : Heap} (t : At h z TI TO i1 i2 a b k) (q : Addr) (hz : q ≠ z) (h1 : q ≠ TI) (h2 : q ≠ TO) (h3 : q ≠ i1) (h4 : q ≠ i2) (kp : ∀ c o, c ≠ q → h.get? c = some o → h'.get? c = some o) (hq : ∃ o, h'.get? q = some o) : At h' z TI TO i1 i2 a b k := by
  obtain ⟨out, ti, ⟨x, y, to⟩, t1, t2⟩ := t
  refine ⟨?_, kp _ _ h1.symm ti, ⟨x, y, kp _ _ h2.symm to⟩, t1.at fun o e => kp _ _ h3.symm e, t2.at fun o e => kp _ _ h4.symm e⟩
  rcases out with out | ⟨W, fl, oW, o1, o2, n1, n2, n3, n4⟩
  · exact .inl (kp _ _ hz.symm out)
  · by_cases e : W = q
    · subst e
      obtain ⟨o, ho⟩ := hq
      exact .inr ⟨W, fl, o, kp _ _ hz.symm o1, ho, n1, n2, n3, n4⟩
    · exact .inr ⟨W, fl, oW, kp _ _ hz.symm o1, kp _ _ e o2, n1, n2, n3, n4⟩
theorem nextAny {Q : Option Value → Shared → Prop} (D : ZipApart z TI TO i1 i2 a b) (t : At s.heap z TI TO i1 i2 a b k) (p1 : s.heap.IsTuple a xs) (p2 : s.heap.IsTuple b ys) (hx : xs[k]? = some x) (hy : ys[k]? = some y)
    (fin : ∀ h', At h' z TI TO i1 i2 a b (k + 1) → IsPair h' s.heap.objs.size x y → (∀ c o, c ∉ [z, TO, i1, i2] → s.heap.get? c = some o → h'.get? c = some o) → Q (some (.ref s.heap.objs.size)) { s with heap := h' }) : wpAny (model prog w) A (pyNext (.ref z)) Q E s := by
  have hT := t.ty
  have mz : z < s.heap.objs.size := let ⟨o, ho, _⟩ := hT; Heap.lt_size ho
  obtain ⟨out, ti, ⟨c1, c2, to⟩, t1, t2⟩ := t
  have mTO : TO < s.heap.objs.size := Heap.lt_size to
  have m1 : i1 < s.heap.objs.size := let ⟨_, e, _⟩ := t1; Heap.lt_size e
  have m2 : i2 < s.heap.objs.size := let ⟨_, e, _⟩ := t2; Heap.lt_size e
  have nm : ∀ {c : Addr}, c ∉ [z, TO, i1, i2] → c ≠ z ∧ c ≠ TO ∧ c ≠ i1 ∧ c ≠ i2 := fun h => by simpa using h
  have nti : TI ∉ [z, TO, i1, i2] := by simp [D.TIz, D.TITO, D.TIi1, D.TIi2]
  unfold pyNext
  refine wpAny_bind (wpAny_attempt (wpAny_callSpecial?_slot (name := Str.ofString "__next__") hT F.slot_zip_next (wpAny_call_entry F.slot_zip_next hT F.entry_zip_next ?_ (F.args_zip_next_1 _))))
  rcases out with out | ⟨W, fl, oW, o1, o2, n1, n2, n3, n4⟩
  · refine RZ.zipT_next_item D out ti to t1 t2 p1 p2 hx hy fun h' a1 a2 a3 a4 a5 a6 a7 => wpAny_pure (fin h' ⟨.inr ⟨_, false, _, a1, a5, Nat.ne_of_gt mz, Nat.ne_of_gt mTO, Nat.ne_of_gt m1, Nat.ne_of_gt m2⟩, a7 _ _ D.TIz D.TITO D.TIi1 D.TIi2 ti, ⟨_, _, a2⟩, a3, a4⟩ a5 fun c o hc e => ?_)
    obtain ⟨q1, q2, q3, q4⟩ := nm hc
    exact a7 c o q1 q2 q3 q4 e
  · refine nextHeld D o1 o2 ti t1 t2 p1 p2 hx hy fun h' a1 a2 a3 a4 a5 => wpAny_pure (fin h' ⟨.inr ⟨W, true, oW, a1, a5 _ _ n1 n3 n4 o2, n1, n2, n3, n4⟩, a5 _ _ D.TIz D.TIi1 D.TIi2 ti, ⟨_, _, a5 _ _ D.TOz D.TOi1 D.TOi2 to⟩, a2, a3⟩ a4 fun c o hc e => ?_)
    obtain ⟨q1, q2, q3, q4⟩ := nm hc
    exact a5 c o q1 q3 q4 e
theorem endAny {Q : Option Value → Shared → Prop} (hh : A.handled = none) (D : ZipApart z TI TO i1 i2 a b) (t : At s.heap z TI TO i1 i2 a b k) (p1 : s.heap.IsTuple a xs) (p2 : s.heap.IsTuple b ys) (hend : xs[k]? = none ∨ ys[k]? = none)
    (fin : ∀ h', (∀ c o, c ∉ [z, TO, i1, i2] → s.heap.get? c = some o → h'.get? c = some o) → Q none { s with heap := h' }) : wpAny (model prog w) A (pyNext (.ref z)) Q E s := by
  have hT := t.ty
  obtain ⟨out, ti, ⟨c1, c2, to⟩, t1, t2⟩ := t
  have nm : ∀ {c : Addr}, c ∉ [z, TO, i1, i2] → c ≠ z ∧ c ≠ TO ∧ c ≠ i1 ∧ c ≠ i2 := fun h => by simpa using h
  unfold pyNext
  refine wpAny_bind (wpAny_attempt (wpAny_callSpecial?_slot (name := Str.ofString "__next__") hT F.slot_zip_next (wpAny_call_entry F.slot_zip_next hT F.entry_zip_next ?_ (F.args_zip_next_1 _))))
  have stop : ∀ (h' : Heap) (e : Addr), (∀ c o, c ∉ [z, TO, i1, i2] → s.heap.get? c = some o → h'.get? c = some o) → (∃ o, h'.get? e = some o ∧ o.cls = .type "StopIteration") → wpAny (model prog w) A (isInstance (.ref e) (.type "StopIteration")) (fun r s' => if r = true then Q none s' else E (.ref e) s') E { s with heap := h' } := fun h' e kp ⟨o, ho, hc⟩ =>
    wpAny_isInstance (T := "StopIteration") (b := true) ⟨o, ho, hc⟩ isSubtype_stop (by rw [if_pos rfl]; exact fin h' kp)
  rcases out with out | ⟨W, fl, oW, o1, o2, n1, n2, n3, n4⟩
  · refine RZ.zipT_next_end hh D out ti to t1 t2 p1 p2 hend fun h' e kp he => ?_
    obtain ⟨o, ho, hc⟩ := he
    refine wpAny_bind (wpAny_isInstance (T := "StopIteration") (b := true) ⟨o, ho, hc⟩ isSubtype_stop (wpAny_pure (fin h' fun c o hc e => ?_)))
    obtain ⟨q1, q2, q3, q4⟩ := nm hc
    exact kp c o q1 q2 q3 q4 e
  · refine endHeld hh D o1 o2 ti t1 t2 p1 p2 hend fun h' e kp he => ?_
    obtain ⟨o, ho, hc⟩ := he
    refine wpAny_bind (wpAny_isInstance (T := "StopIteration") (b := true) ⟨o, ho, hc⟩ isSubtype_stop (wpAny_pure (fin h' fun c o hc e => ?_)))
    obtain ⟨q1, q2, q3, q4⟩ := nm hc
    exact kp c o q1 q3 q4 e
theorem zip_no_len : typeLookup (.type "zip") "__len__" = pure none := by rw [typeLookup_type, builtinLookup_eq_fast]; kernel_rfl
theorem zip_no_hint : typeLookup (.type "zip") "__length_hint__" = pure none := by rw [typeLookup_type, builtinLookup_eq_fast]; kernel_rfl
theorem hint {Q : Bool → Shared → Prop} (hT : s.TypeIs (.ref z) "zip") (h : ∀ r, Q r s) : wpAny (model prog w) A (Builtin.List.listLengthHint (.ref z)) Q E s := by
  unfold Builtin.List.listLengthHint
  refine wpAny_bind (wpAny_specialOf hT zip_no_len ?_)
  refine PySem.W.KFB.if_not rfl ?_
  refine PySem.W.KFB.if_not rfl ?_
  refine wpAny_bind (wpAny_specialOf hT zip_no_hint ?_)
  exact wpAny_pure (h _)
end
section
variable {X : Cx} {pins : List (Addr × Obj)} {σ : L2.St} {A1 : Around} {z TI TO i1 i2 a b q : Addr} {xs ys : List V}
/-- the list at q is filled from the zip at z -/
theorem loopZ {Rs : Result → Shared → Prop} (P : Nat → List V → Hp → Prop) (n : Nat) (hn : n = min xs.length ys.length) (hh : A1.in1.handled = none) (D : ZipApart z TI TO i1 i2 a b)
    (hP : ∀ i acc H, P i acc H → H q = some (.lst acc) ∧ acc.length < sizeLine ∧ SqT X.K H a xs ∧ SqT X.K H b ys)
    (step : ∀ i acc H x y W, P i acc H → xs[i]? = some x → ys[i]? = some y → H W = none → P (i + 1) (acc ++ [.ref W]) (upd (upd H W (.tup [x, y])) q (.lst (acc ++ [.ref W]))))
    (done : ∀ acc H s, Inv X pins σ H s → P n acc H → Rs (.ok (.ret .none)) s) :
    ∀ (m i : Nat) (acc : List V) (H : Hp) (s : Shared), n - i = m → i ≤ n → Inv X pins σ H s → P i acc H → At s.heap z TI TO i1 i2 a b i → (∀ c ∈ [z, TI, TO, i1, i2], FpOk X pins H c) → codeAny (model X.prog X.w) A1 (.builtin "list.extend.loop" ⟨[.ref q, .ref z, .none], []⟩) Rs s := by
  intro m
  induction m with
  | zero =>
    intro i acc H s hm hi I p t hf
    obtain rfl : i = n := by omega
    obtain ⟨hq, _, sx, sy⟩ := hP _ _ _ p
    obtain ⟨its, rv, p1, _⟩ := I.tuple sx
    obtain ⟨its2, rv2, p2, _⟩ := I.tuple sy
    have l1 := rv.length
    have l2 := rv2.length
    refine codeAny_builtin PySem.F.entry_extend_loop ?_
    rw [Around.under_plainId PySem.F.plain_extend_loop _]
    show wpAny _ A1.in1 (pyNext (.ref z) >>= _) _ _ s
    have he : its.toArray[i]? = none ∨ its2.toArray[i]? = none := by
      by_cases c : xs.length ≤ i
      · exact .inl (by simp; omega)
      · exact .inr (by simp; omega)
    refine wpAny_bind (endAny (xs := its.toArray) (ys := its2.toArray) hh D t p1 p2 he fun h' kp => wpAny_pure (done acc H _ (I.turnedL (t' := s.toks) (ch := [z, TO, i1, i2]) kp fun c hc => hf c ?_) p))
    simp at hc ⊢
    rcases hc with h | h | h | h <;> simp [h]
  | succ m ih =>
    intro i acc H s hm hi I p t hf
    obtain ⟨hq, hz, sx, sy⟩ := hP _ _ _ p
    obtain ⟨its, rv, p1, _⟩ := I.tuple sx
    obtain ⟨its2, rv2, p2, _⟩ := I.tuple sy
    have hx : xs[i]? = some xs[i] := List.getElem?_eq_getElem (by omega)
    have hy : ys[i]? = some ys[i] := List.getElem?_eq_getElem (by omega)
    obtain ⟨u, hu, ru⟩ := rv.get hx
    obtain ⟨u2, hu2, ru2⟩ := rv2.get hy
    refine codeAny_builtin PySem.F.entry_extend_loop ?_
    rw [Around.under_plainId PySem.F.plain_extend_loop _]
    show wpAny _ A1.in1 (pyNext (.ref z) >>= _) _ _ s
    refine wpAny_bind (nextAny (xs := its.toArray) (ys := its2.toArray) (x := u) (y := u2) D t p1 p2 (by simpa using hu) (by simpa using hu2) fun h' t' np kp => ?_)
    have hn0 : H s.heap.objs.size = none := I.hok.fresh (Nat.le_refl _)
    have new : ObjOk X.prog X.w (upd H s.heap.objs.size (.tup [xs[i], ys[i]])) h' s.heap.objs.size (.tup [xs[i], ys[i]]) := ⟨by show 2 ≤ sizeLine; decide, [u, u2], .cons ru (.cons ru2 .nil), ⟨_, np, rfl, _, rfl⟩⟩
    have I1 : Inv X pins σ (upd H s.heap.objs.size (.tup [xs[i], ys[i]])) { s with heap := h' } := I.turnedNew (t' := s.toks) (ch := [z, TO, i1, i2]) kp (fun c hc => hf c (by simp at hc ⊢; rcases hc with h | h | h | h <;> simp [h])) (Nat.le_refl _) new
    have hqn : q ≠ s.heap.objs.size := fun e => by rw [e, hn0] at hq; cases hq
    have hq1 : upd H s.heap.objs.size (.tup [xs[i], ys[i]]) q = some (.lst acc) := by rw [upd_ne hqn]; exact hq
    show wpAny _ A1.in1 (updateSeq q (·.push (Value.ref s.heap.objs.size)) >>= _) _ _ _
    obtain ⟨z0, is, k, r2, hl, e⟩ := I1.lstM hq1
    refine wpAny_bind (wpAny_updateSeq e rfl (wpAny_pure ⟨plainId_quiet PySem.F.plain_extend_loop _, ?_⟩) (by rw [List.size_toArray]; omega) (by show (is.toArray.push _).size ≤ sizeLine + 1; rw [Array.size_push, List.size_toArray]; omega))
    have hne : ∀ c ∈ [z, TI, TO, i1, i2], q ≠ c := fun c hc e => by
      have := (hf c hc).1
      rw [← e, hq] at this
      cases this
    refine ih (i + 1) (acc ++ [.ref s.heap.objs.size]) _ _ (by omega) (by omega) (I1.lset (its' := is ++ [Value.ref s.heap.objs.size]) (t' := s.toks) hq1 e (by simp) (r2.append (.cons (show RelV (.ref s.heap.objs.size) (Value.ref s.heap.objs.size) from rfl) .nil)) (by rw [List.length_append, List.length_singleton]; omega)) (step i acc H _ _ _ p hx hy hn0) ?_ fun c hc => ?_
    · refine t'.keep q (hne z (by simp)) (hne TI (by simp)) (hne TO (by simp)) (hne i1 (by simp)) (hne i2 (by simp)) (fun c o hc e => (Heap.get?_update_other _ _ (Ne.symm hc)).trans e) ⟨_, Heap.get?_update_self _ e rfl⟩
    · obtain ⟨f0, f1, f2, f3, f4, f5⟩ := hf c hc
      have hlt : c ≠ s.heap.objs.size := by
        have := t
        have hz := t.ty
        obtain ⟨o, ho, _⟩ := hz
        obtain ⟨_, ti, ⟨_, _, to⟩, ⟨_, e1, _⟩, ⟨_, e2, _⟩⟩ := t
        have m1 := Heap.lt_size ho
        have m2 := Heap.lt_size ti
        have m3 := Heap.lt_size to
        have m4 := Heap.lt_size e1
        have m5 := Heap.lt_size e2
        simp at hc
        rcases hc with h | h | h | h | h <;> rw [h] <;> exact Nat.ne_of_lt (by assumption)
      exact ⟨by rw [upd_ne (Ne.symm (hne c hc)), upd_ne hlt]; exact f0, f1, f2, f3, f4, f5⟩
/-- list(zip(a, b)) -/
def tListZip (K : PySem.W.Frag) (t : TA) : TE := fun σ H Q => t σ H fun vs H1 => ∃ (a b : Addr) (xs ys : List V) (n : Nat), vs = [.ref a, .ref b] ∧ n = min xs.length ys.length ∧ SqT K H1 a xs ∧ SqT K H1 b ys ∧ ∀ q, H1 q = none → ∃ P : Nat → List V → Hp → Prop, P 0 [] (upd H1 q (.lst [])) ∧
  (∀ i acc H, P i acc H → H q = some (.lst acc) ∧ acc.length < sizeLine ∧ SqT K H a xs ∧ SqT K H b ys) ∧
  (∀ i acc H x y W, P i acc H → xs[i]? = some x → ys[i]? = some y → H W = none → P (i + 1) (acc ++ [.ref W]) (upd (upd H W (.tup [x, y])) q (.lst (acc ++ [.ref W])))) ∧ ∀ acc H, P n acc H → Q (.ref q) H
theorem pe_listZip {e e2 : Expr} {t : TA} {p p2 pos pos2 : Pos} (hc : X.calm = true) (hg : Gl X "list") (hm : X.mg "list" = none) (hg2 : Gl X "zip") (hm2 : X.mg "zip" = none) (ha : PA X [e, e2] t)
    (hs : starEach [e, e2] X.env = (false, eval e X.env) :: starEach [e2] X.env := by rfl) (hpl : (backTo pos2 (starEach [e2] X.env)).any (·.1) = false := by rfl)
    (hs1 : starEach [.Call (.Name "zip" p2) [e, e2] [] pos2] X.env = (false, eval (.Call (.Name "zip" p2) [e, e2] [] pos2) X.env) :: starEach [] X.env := by rfl) :
    PE X (.Call (.Name "list" p) [.Call (.Name "zip" p2) [e, e2] [] pos2] [] pos) (tListZip X.K t) := by
  refine ⟨fun pins s σ H Q I h => PyProof.Rows.Call_ (ld_blt I hg hm (by rfl) (PyProof.Rows.callWith_type1 (PyProof.Rows.args_cons ?_ hs1) hs1 rfl))⟩
  refine PyProof.Rows.Call_ (ld_blt I hg2 hm2 PyProof.Rows.boot_zip (PyProof.Rows.callWith_type1 (thn (ha.run pos2 pins s σ H _ I h) fun us s1 ⟨vs, H1, I1, r1, q1⟩ => ?_) hs hpl))
  obtain ⟨a, b, xs, ys, n, rfl, hn, sx, sy, q1⟩ := q1
  cases r1 with
  | cons r rr => cases rr with
    | cons r' rr =>
      cases rr
      cases r
      cases r'
      obtain ⟨its, rv, p1, _⟩ := I1.tuple sx
      obtain ⟨its2, rv2, p2, _⟩ := I1.tuple sy
      obtain ⟨o1, ho1, _⟩ := id p1
      obtain ⟨o2, ho2, _⟩ := id p2
      have hlt1 := Heap.lt_size ho1
      have hlt2 := Heap.lt_size ho2
      refine RZ.call_zipT (show s1.heap.IsTuple a its.toArray from p1) (show s1.heap.IsTuple b its2.toArray from p2) fun h' hz hTI hTO t1 t2 hsz kp => PyProof.Rows.args_nil ?_
      have D := PySem.W.ktu_apart s1.heap.objs.size a b hlt1 hlt2
      have I2 : Inv X pins σ H1 { s1 with heap := h' } := I1.kept (t' := s1.toks) kp
      have big : ∀ c ∈ [s1.heap.objs.size + 4, s1.heap.objs.size + 2, s1.heap.objs.size + 3, s1.heap.objs.size, s1.heap.objs.size + 1], s1.heap.objs.size ≤ c ∧ c < h'.objs.size := fun c hc => by
        rw [hsz]
        simp at hc
        omega
      have fz : ∀ c ∈ [s1.heap.objs.size + 4, s1.heap.objs.size + 2, s1.heap.objs.size + 3, s1.heap.objs.size, s1.heap.objs.size + 1], FpOk X pins H1 c := fun c hc => I1.fpOk (big c hc).1 (I1.hok.fresh (big c hc).1)
      revert D hz hTI hTO t1 t2 big fz
      generalize s1.heap.objs.size + 4 = z
      generalize s1.heap.objs.size + 2 = TI
      generalize s1.heap.objs.size + 3 = TO
      generalize s1.heap.objs.size + 1 = i2
      generalize s1.heap.objs.size = i1
      intro hz hTI hTO t1 t2 D big fz
      generalize hs2 : ({ s1 with heap := h' } : Shared) = s2 at I2
      have hh2 : s2.heap = h' := by rw [← hs2]
      subst hh2
      have hA : At s2.heap z TI TO i1 i2 a b 0 := ⟨.inl hz, hTI, ⟨_, _, hTO⟩, t1, t2⟩
      -- list(..)
      refine callType_codes (Q₁ := fun obj s₁ => obj = .ref s2.heap.objs.size ∧ s₁ = { s2 with heap := s2.heap.push { cls := .type "list", data := .seq #[] } }) PySem.F.called_list (PySem.F.typeCall_list_1 _) PySem.F.entry_list_init (code_list_new _ ⟨rfl, rfl⟩) fun obj s₁ h₁ => ?_
      obtain ⟨rfl, rfl⟩ := h₁
      have hS : (s2.heap.push { cls := .type "list", data := .seq #[] }).get? s2.heap.objs.size = some { cls := .type "list", data := .seq #[] } := Heap.get?_push_size _ rfl
      have fr : H1 s2.heap.objs.size = none := I2.hok.fresh (Nat.le_refl _)
      obtain ⟨P, P0, hP, step, fin⟩ := q1 _ fr
      have I3 : Inv X pins σ (upd H1 s2.heap.objs.size (.lst [])) { s2 with heap := s2.heap.push { cls := .type "list", data := .seq #[] } } := I2.lnew (its := []) (t' := s2.toks) .nil (Nat.zero_le _)
      refine ⟨⟨_, hS, rfl⟩, PySem.F.args_list_init_2 _ _, ?_⟩
      show wpAny _ _ (do let old ← Builtin.List.listItems (.ref s2.heap.objs.size); Builtin.List.listUpdate (.ref s2.heap.objs.size) (fun _ => #[]); letGo old.toList.reverse; Builtin.List.listExtendWith (.ref s2.heap.objs.size) (.ref z) .none) _ _ _
      refine wpAny_bind ?_
      unfold Builtin.List.listItems
      refine wpAny_bind (wpAny_seqItems hS rfl (wpAny_pure ?_))
      show wpAny _ _ (updateSeq s2.heap.objs.size (fun _ => #[]) >>= fun _ => letGo (#[] : Array Value).toList.reverse >>= fun _ => Builtin.List.listExtendWith (.ref s2.heap.objs.size) (.ref z) .none) _ _ _
      refine wpAny_bind (wpAny_updateSeq hS rfl ?_)
      have I4 := I3.lset (f := fun _ => #[]) (its := []) (its' := []) (ys := []) (t' := s2.toks) upd_same hS rfl .nil (Nat.zero_le _)
      rw [upd_upd] at I4
      refine wpAny_bind (wpAny_letGo ?_)
      have hne : ∀ c ∈ [z, TI, TO, i1, i2], s2.heap.objs.size ≠ c := fun c hc => by
        have := (big c hc).2
        omega
      generalize hq0 : s2.heap.objs.size = q0 at *
      have kp2 : ∀ c o, c ≠ q0 → s2.heap.get? c = some o → ((s2.heap.push { cls := .type "list", data := .seq #[] }).update q0 (Obj.mapSeq fun _ => #[])).get? c = some o := fun c o hc e => (Heap.get?_update_other _ _ (Ne.symm hc)).trans (Heap.get?_push_of_some _ e)
      have hS2 := Heap.get?_update_self (Obj.mapSeq fun _ => (#[] : Array Value)) hS rfl
      have hA2 : At ((s2.heap.push { cls := .type "list", data := .seq #[] }).update q0 (Obj.mapSeq fun _ => #[])) z TI TO i1 i2 a b 0 := hA.keep q0 (hne z (by simp)) (hne TI (by simp)) (hne TO (by simp)) (hne i1 (by simp)) (hne i2 (by simp)) kp2 ⟨_, hS2⟩
      have hz2 : IsZip ((s2.heap.push { cls := .type "list", data := .seq #[] }).update q0 (Obj.mapSeq fun _ => #[])) z TI TO .none := kp2 _ _ (hne z (by simp)).symm hz
      have f4 : ∀ c ∈ [z, TI, TO, i1, i2], FpOk X pins (upd H1 q0 (.lst [])) c := fun c hc => by
        obtain ⟨f0, f1, f2, f3, f4, f5⟩ := fz c hc
        exact ⟨by rw [upd_ne (hne c hc).symm]; exact f0, f1, f2, f3, f4, f5⟩
      have run : ∀ (H2 : Hp) (s' : Shared), Inv X pins σ H2 s' → H2 = upd H1 q0 (.lst []) → At s'.heap z TI TO i1 i2 a b 0 → codeAny (model X.prog X.w) X.A.in1 (.builtin "list.extend.loop" ⟨[.ref q0, .ref z, .none], []⟩) (PySem.wants (fun r s₂ => r = .none ∧ EP X pins σ Q (.ref q0) s₂) X.xe) s' := fun H2 s' J e t => by
        subst e
        exact loopZ (A1 := X.A.in1) (Rs := PySem.wants (fun r s₂ => r = .none ∧ EP X pins σ Q (.ref q0) s₂) X.xe) P n hn (show X.A.in1.in1.handled = none from I.ok.hd hc) D hP step (fun acc H' s'' J' p' => ⟨rfl, .ref q0, H', J', rfl, fin acc H' p'⟩) n 0 [] _ s' rfl (Nat.zero_le _) J P0 t f4
      unfold Builtin.List.listExtendWith
      refine wpAny_bind (wpAny_typeOf (T := "zip") ⟨_, hz2, rfl⟩ ?_)
      have e1 : Builtin.List.listSameRef (.ref q0) (.ref z) = false := by simp [Builtin.List.listSameRef, hne z (by simp)]
      have e2 : (Value.type "zip" == Value.type "list") = false := by decide
      have e3 : (Value.type "zip" == Value.type "tuple") = false := by decide
      simp only [e1, e2, e3, Bool.or_false, Bool.false_eq_true, if_false]
      refine wpAny_bind (wpAny_pyIter_zip hz2 ?_)
      refine wpAny_bind (wpAny_holding (hint ⟨_, hz2, rfl⟩ fun r => ?_))
      refine wpAny_ite_split (fun _ => ?_) (fun _ => wpAny_pure ⟨plainId_quiet PySem.F.plain_extend_loop _, run _ _ I4 rfl hA2⟩)
      refine wpAny_bind (wpAny_rule (wpAny_bind ?_))
      show wpAny _ _ (updateSeq q0 (·.push .none) >>= fun _ => updateSeq q0 (·.pop)) _ _ _
      refine wpAny_bind (wpAny_updateSeq hS2 rfl ?_)
      have I5 := I4.lset (f := (·.push Value.none)) (its' := [Value.none]) (ys := [.non]) (t' := s2.toks) upd_same hS2 rfl (.cons rfl .nil) (by rw [List.length_singleton, sizeLine_eq]; decide)
      obtain ⟨z4, its4, k4, r4, hl4, e4⟩ := I5.lstM upd_same
      obtain ⟨u4, rfl, ru4⟩ := r4.one
      refine wpAny_updateSeq e4 rfl ?_ (by show 1 ≤ sizeLine; rw [sizeLine_eq]; decide) (by show 0 ≤ sizeLine + 1; exact Nat.zero_le _)
      have I6 := I5.lset (f := (·.pop)) (its := [u4]) (its' := []) (ys := []) (t' := s2.toks) upd_same e4 (by rfl) .nil (Nat.zero_le _)
      rw [upd_upd, upd_upd] at I6
      refine wpAny_pure ⟨plainId_quiet PySem.F.plain_extend_loop _, run _ _ I6 rfl ?_⟩
      refine hA2.keep q0 (hne z (by simp)) (hne TI (by simp)) (hne TO (by simp)) (hne i1 (by simp)) (hne i2 (by simp)) (fun c o hc e => (Heap.get?_update_other _ _ (Ne.symm hc)).trans ((Heap.get?_update_other _ _ (Ne.symm hc)).trans e)) ⟨_, Heap.get?_update_self _ e4 rfl⟩
end
end PLz
namespace PL
open PySem PySem.Spec L2
section
variable {X : Cx} {B : Box} {e e2 : Expr} {t : QA} {p p2 pos pos2 : Pos}
def qZipL (t : QA) (ρ : Env) (Q : T → Env → Prop) : Prop := t ρ fun ws ρ1 => match wsD ws with
  | some [.tuple as, .tuple bs] => as.length < sizeLine ∧ Q (.l (zipD as bs)) ρ1
  | _ => False
theorem q_listZip (hc : X.calm = true) (hg : Gl X "list") (hm : X.mg "list" = none) (hg2 : Gl X "zip") (hm2 : X.mg "zip" = none) (ha : PA X [e, e2] (liftA X.K B t))
    (hs : starEach [e, e2] X.env = (false, eval e X.env) :: starEach [e2] X.env := by rfl) (hpl : (backTo pos2 (starEach [e2] X.env)).any (·.1) = false := by rfl)
    (hs1 : starEach [.Call (.Name "zip" p2) [e, e2] [] pos2] X.env = (false, eval (.Call (.Name "zip" p2) [e, e2] [] pos2) X.env) :: starEach [] X.env := by rfl) :
    PE X (.Call (.Name "list" p) [.Call (.Name "zip" p2) [e, e2] [] pos2] [] pos) (lift X.K B (qZipL t)) :=
  weakE (PLz.pe_listZip hc hg hm hg2 hm2 ha hs hpl hs1) fun σ H Q ⟨G, F, ρ, Pq, k, h, q⟩ => liftA_use k h fun ws ρ1 vs H1 F1 h1 k1 w1 e1 => by
    split at h1
    · rename_i as bs g
      obtain ⟨hz, h1⟩ := h1
      obtain ⟨x, y, rfl, r1, r2⟩ := (wsD_ok w1 g).two
      cases r1 with
      | tup s1 t1 =>
        cases r2 with
        | tup s2 t2 =>
          rename_i a xs b ys
          have l1 := t1.length
          have l2 := t2.length
          refine ⟨a, b, xs, ys, min as.length bs.length, rfl, by rw [l1, l2], same_t k1.2.f s1, same_t k1.2.f s2, fun d hd => ?_⟩
          have hG : G d = none := (k1.2.free hd).2
          refine ⟨fun i acc H => ∃ F', St0 X.K B (upd G d (.lst acc)) F' H σ ρ1 ∧ Same F1 F' ∧ RpAll X.K F' acc ((zipD as bs).take i) ∧ acc.length ≤ as.length, ⟨F1, k1.lend hd, Same.refl F1, .nil, Nat.zero_le _⟩, fun i acc H2 ⟨F', k2, s, _, hl⟩ => ⟨k2.2.g d _ upd_same, by omega, same_t (s.trans k2.2.f) s1, same_t (s.trans k2.2.f) s2⟩, fun i acc H2 x y W ⟨F', k2, s, rr, hl⟩ hx hy hW => ?_, fun acc H2 ⟨F', k2, s, rr, hl⟩ => ?_⟩
          · obtain ⟨dx, hdx, rx⟩ := t1.getV hx
            obtain ⟨dy, hdy, ry⟩ := t2.getV hy
            obtain ⟨fl, e2⟩ := k2.newT (p := W) hW (RpAll.cons (rx.mono s) (.one (ry.mono s)))
            have hv := fl_d fl
            refine ⟨_, fl.pop.lent hG (B.okF k1.2.bx (s.trans e2)), s.trans e2, ?_, ?_⟩
            · rw [List.take_add_one, zipD_get hdx hdy]
              exact (rr.mono e2).append (.one hv)
            · have := rr.length
              rw [List.length_take, zipD_len] at this
              have hi := (List.getElem?_eq_some_iff.mp hdx).1
              rw [List.length_append, List.length_singleton]
              omega
          · have e : (zipD as bs).take (min as.length bs.length) = zipD as bs := by rw [← zipD_len, List.take_length]
            rw [e] at rr
            have hd1 : H2 d = some (.lst acc) := k2.2.g d _ upd_same
            have k3 := k2.2.unpark hG (B.okF k1.2.bx s) rr
            rw [upd_id hd1] at k3
            exact q _ _ _ _ _ h1 ⟨k2.1, k3, fun j z => nomatch z⟩ (e1.trans s)
    · exact h1.elim
end
end PL

set_option Elab.async false
set_option linter.all false
set_option maxRecDepth 100000
/-! PL, part 14: the law's def, whose first statement makes the box that draws. -/
namespace PL
open PySem PySem.Spec L2
/-- the def that makes the box of the script's cells -/
def spBox (K : PySem.W.Frag) (B : Box) : Sp := fun vs H Q _ => ∃ (a : Addr) (ns : List Int), vs = [.ref a] ∧ SqL K H a (ns.map V.int) ∧ ns.length ≤ 63 ∧ ∀ u H' fp, B.at_ H' u fp → (∀ b, fp b → H b = none) → Same H H' → Q (.ref u) H'
def spLaw (K : PySem.W.Frag) : Sp := fun vs H Q _ => ∃ (a : Addr) (ns : List Int), vs = [.ref a] ∧ SqL K H a (ns.map V.int) ∧ ns.length ≤ 63 ∧ ∀ H', Q (.bl true) H'
/-- the law is kept -/
def lawEnds : PEnds := { nx := fun _ => False, rt := fun r _ => r = .d (.bool true) }
theorem law_read {K : PySem.W.Frag} {B : Box} {E : XK} {i n : Nat} {tr : QS} {a : Addr} {ns : List Int} {H : Hp} {Q : VK} (hi : 0 < i ∧ i < n + 1) (hS : SqL K H a (ns.map V.int)) (hl : ns.length ≤ 63)
    (h : ∀ u, tr lawEnds ((.raw (.ref a) :: List.replicate n .un).set i (.bx u))) (q : ∀ H', Q (.bl true) H') (hB : B.ok (fun _ => none) (fun _ => none) := by exact True.intro) :
    tSeq (tAsg (tCall (spBox K B) [] E (tCons (tVar 0) tNil)) (gName i)) (liftS K B tr) { nx := fun _ H' => Q .non H', rt := Q } (some (.ref a) :: List.replicate n none) H := by
  refine ⟨.ref a, rfl, a, ns, rfl, hS, hl, fun u H' fp hb hfp hs => ?_⟩
  obtain ⟨j, rfl⟩ : ∃ j, i = j + 1 := ⟨i - 1, by omega⟩
  refine ⟨fun _ => none, fun _ => none, (.raw (.ref a) :: List.replicate n .un).set (j + 1) (.bx u), lawEnds, ⟨fun t ht => ?_, fun k => if k = j + 1 then fp else fun _ => False, (fun _ _ z => nomatch z), (fun _ _ z => nomatch z), (fun _ _ z => nomatch z), hB, by simp, fun k t hk => ?_, fun k k' b h1 h2 => ?_, fun k b h1 => ⟨rfl, rfl⟩, fun k b h1 => ?_⟩, h u, fun _ _ _ _ z => z.elim, fun r v σ' H'' ρ' F' z fl _ => ?_, fun _ _ _ _ z => z.elim, fun _ _ _ _ z => z.elim⟩
  · rw [List.set_cons_succ] at ht
    rcases List.mem_cons.mp ht with rfl | z
    · trivial
    · rcases List.mem_or_eq_of_mem_set z with z | rfl
      · rw [List.eq_of_mem_replicate z]
        trivial
      · trivial
  · rw [List.set_cons_succ] at hk ⊢
    by_cases e : k = j + 1
    · subst e
      simp only [if_true, List.getElem?_cons_succ] at hk ⊢
      have hj : j < n := by omega
      rw [List.getElem?_set_self (by simpa using hj)] at hk
      rw [List.getElem?_set_self (by simpa using hj)]
      cases hk
      exact ⟨rfl, hb⟩
    · simp only [if_neg e]
      cases k with
      | zero =>
        cases hk
        exact ⟨fun _ z => z, rfl⟩
      | succ k =>
        rw [List.getElem?_cons_succ] at hk
        rw [List.getElem?_set_ne (by omega)] at hk
        have := List.eq_of_mem_replicate (List.mem_of_getElem? hk)
        subst this
        exact fun _ z => z
  · by_cases e : k = j + 1 <;> by_cases e' : k' = j + 1 <;> simp only [e, e', if_true, if_false] at h1 h2
    omega
  · by_cases e : k = j + 1 <;> simp only [e, if_true, if_false] at h1
    simp
    omega
  · have z : r = .d (.bool true) := z
    subst z
    have := fl_d fl
    cases this
    exact q _
end PL

set_option Elab.async false
set_option linter.all false
set_option maxRecDepth 100000
set_option exponentiation.threshold 3000
/-! PL, part 15: data that repr can show. -/
namespace PL
open PySem PySem.Spec L2
/-- small data: depth, bulk -/
structure Sm (k n : Nat) (d : D) : Prop where
  lay : Lay k d
  show_ : d.showable = true
  short : d.intsShort 13 = true
  few : d.bulk ≤ n
theorem Sm.mono {k k' n n' : Nat} {d : D} (h : Sm k n d) (hk : k ≤ k') (hn : n ≤ n') : Sm k' n' d := ⟨h.lay.mono hk, h.show_, h.short, Nat.le_trans h.few hn⟩
theorem sm_int {k n : Nat} {i : Int} (h1 : -999999999999 ≤ i) (h2 : i ≤ 999999999999) : Sm k n (.int i) := by
  refine ⟨lay_int _, ?_, by simpa only [PyData.intsShort, decide_eq_true_eq] using PyData.shown_int_le2 h1 h2, by simp [PyData.bulk]⟩
  have : i.natAbs.log2 < 1920 := by
    by_cases z : i.natAbs = 0
    · rw [z]; decide
    · refine (Nat.log2_lt z).mpr (Nat.lt_of_lt_of_le (m := 2 ^ 40) (by have e : (2 : Nat) ^ 40 = 1099511627776 := by decide
                                                                       omega) (Nat.pow_le_pow_right (by decide) (by decide)))
  simpa [PyData.showable] using this
theorem sm_nat {k n i : Nat} (h : i ≤ 999999999999) : Sm k n (.int (i : Nat)) := sm_int (by omega) (by omega)
theorem sm_bool {k n : Nat} {b : Bool} : Sm k n (.bool b) := ⟨lay_bool _, by simp [PyData.showable], by simp [PyData.intsShort], by simp [PyData.bulk]⟩
theorem sm_none {k n : Nat} : Sm k n .none := ⟨lay_none, by simp [PyData.showable], by simp [PyData.intsShort], by simp [PyData.bulk]⟩
theorem sm_str {k n : Nat} {x : Str} (h : PyData.strOk x = true) (hn : x.length ≤ n) : Sm k n (.str x) := ⟨lay_str h, by simp [PyData.showable], by simp [PyData.intsShort], by simp only [PyData.bulk]; exact hn⟩
theorem sm_all {k n : Nat} : ∀ {ds : List D}, (∀ d ∈ ds, Sm k n d) → PyData.showableAll ds = true ∧ PyData.intsShortAll 13 ds = true ∧ PyData.bulkAll ds ≤ ds.length * (n + 1)
  | [], _ => ⟨by simp [PyData.showableAll], by simp [PyData.intsShortAll], by simp [PyData.bulkAll]⟩
  | d :: ds, h => by
    obtain ⟨h1, h2, h3⟩ := sm_all fun e he => h e (List.mem_cons_of_mem _ he)
    have h4 := h d List.mem_cons_self
    have h5 := h4.few
    refine ⟨by simp [PyData.showableAll, h1, h4.show_], by simp [PyData.intsShortAll, h2, h4.short], ?_⟩
    simp only [PyData.bulkAll, List.length_cons, Nat.add_mul, Nat.one_mul]
    omega
theorem sm_list {k n m : Nat} {ds : List D} (h : ∀ d ∈ ds, Sm k n d) (hm : ds.length * (n + 1) ≤ m) : Sm (k + 1) m (.list ds) := by
  obtain ⟨h1, h2, h3⟩ := sm_all h
  exact ⟨lay_list fun d hd => (h d hd).lay, by simpa [PyData.showable] using h1, by simpa [PyData.intsShort] using h2, by simp only [PyData.bulk]; omega⟩
theorem sm_tup {k n m : Nat} {ds : List D} (h : ∀ d ∈ ds, Sm k n d) (hm : ds.length * (n + 1) ≤ m) : Sm (k + 1) m (.tuple ds) := by
  obtain ⟨h1, h2, h3⟩ := sm_all h
  exact ⟨lay_tup fun d hd => (h d hd).lay, by simpa [PyData.showable] using h1, by simpa [PyData.intsShort] using h2, by simp only [PyData.bulk]; omega⟩
theorem all2 {k n : Nat} {a b : D} (h1 : Sm k n a) (h2 : Sm k n b) : ∀ d ∈ [a, b], Sm k n d := fun d h => by
  simp at h
  rcases h with rfl | rfl <;> assumption
theorem all3 {k n : Nat} {a b c : D} (h1 : Sm k n a) (h2 : Sm k n b) (h3 : Sm k n c) : ∀ d ∈ [a, b, c], Sm k n d := fun d h => by
  simp at h
  rcases h with rfl | rfl | rfl <;> assumption
theorem all4 {k n : Nat} {a b c e : D} (h1 : Sm k n a) (h2 : Sm k n b) (h3 : Sm k n c) (h4 : Sm k n e) : ∀ d ∈ [a, b, c, e], Sm k n d := fun d h => by
  simp at h
  rcases h with rfl | rfl | rfl | rfl <;> assumption
/-- repr of small data -/
theorem sm_repr {k n u : Nat} {d : D} {Q : T → Prop} (h : Sm k n d) (hu : u + 64 < cLine) (q : Q (.d (.str d.shown))) (hk : k < 64 := by decide) (hn : n ≤ 1048576 := by decide) : pRepr u [d] Q := by
  have := h.lay.2
  refine ⟨h.lay.nod, noDict_of d h.lay.1, h.show_, by omega, PyData.shown_fits_bulk (B := 13) (by decide) (by decide) (PyData.leavesShort_of_canLay0 13 d h.lay.1 h.short) ?_, q⟩
  have e : (2 : Nat) ^ 20 = 1048576 := by decide
  have := h.few
  omega
/-- texts that repr wrote, compared -/
def pNeR : D → D → (T → Prop) → Prop
  | .str a, .str b, Q => Q (.d (.bool (!decide (a = b))))
  | _, _, _ => False
def pEqR : D → D → (T → Prop) → Prop
  | .str a, .str b, Q => Q (.d (.bool (decide (a = b))))
  | _, _, _ => False
section
variable {K : PySem.W.Frag} {B : Box}
theorem vstr_eq {a b : Str} : decide (V.str a = V.str b) = decide (a = b) := by
  rw [Bool.eq_iff_iff]
  simp
theorem o_neR : OpD K B rNe pNeR := by
  intro G F H σ ρ P Q d1 d2 v1 v2 k r1 r2 h q
  unfold pNeR at h
  split at h
  · refine ⟨by rw [r1.str, r2.str]; rfl, ?_⟩
    rw [r1.str, r2.str, vstr_eq]
    exact q _ _ _ _ h (k.d (.bl _)) (Same.refl F)
  · exact h.elim
theorem o_eqR : OpD K B rEq pEqR := by
  intro G F H σ ρ P Q d1 d2 v1 v2 k r1 r2 h q
  unfold pEqR at h
  split at h
  · refine ⟨by rw [r1.str, r2.str]; rfl, ?_⟩
    rw [r1.str, r2.str, vstr_eq]
    exact q _ _ _ _ h (k.d (.bl _)) (Same.refl F)
  · exact h.elim
end
/-! ### statement by statement -/
theorem seq_to {t u : QS} {DP : PEnds} {ρ : Env} (I : Env → Prop) (h1 : ∀ DP' : PEnds, (∀ ρ', I ρ' → DP'.nx ρ') → t DP' ρ) (h2 : ∀ ρ', I ρ' → u DP ρ') : sSeq t u DP ρ := h1 _ h2
/-- a check that holds: its branch is not come to -/
theorem seq_pass {c : QT} {t u : QS} {DP : PEnds} {ρ : Env} (ρ0 : Env) (h1 : ∀ R : Bool → Env → Prop, R false ρ0 → c ρ R) (h2 : u DP ρ0) : sSeq (sIf c t sNext) u DP ρ := h1 _ h2
theorem one_pass {c : QT} {t : QS} {DP : PEnds} {ρ : Env} (ρ0 : Env) (h1 : ∀ R : Bool → Env → Prop, R false ρ0 → c ρ R) (h2 : DP.nx ρ0) : sIf c t sNext DP ρ := h1 _ h2
end PL

set_option Elab.async false
set_option linter.all false
set_option maxRecDepth 100000
/-! PL, part 16: lists of one's own changed in place; dicts of one's own. -/
namespace PL
open PySem PySem.Spec L2
section
variable {X : Cx} {B : Box} {x : Str} {xp apos cpos spos tpos pos : Pos} {e e2 o : Expr} {te ti tv ty tx : QE}
def isL (ρ : Env) (i : Nat) : Prop := match ρ[i]? with
  | some (.l _) => True
  | _ => False
theorem isL_ref {K : PySem.W.Frag} {G F H : Hp} {σ : St} {ρ : Env} {i : Nat} (k : St0 K B G F H σ ρ) (h : isL ρ i) : ∃ a xs ds, ρ[i]? = some (.l ds) ∧ σ[i]? = some (some (.ref a)) ∧ H a = some (.lst xs) ∧ RpAll K F xs ds := by
  unfold isL at h
  split at h
  · rename_i ds e
    obtain ⟨a, xs, h1, h2, h3⟩ := k.2.varL e
    exact ⟨a, xs, ds, e, h1, h2, h3⟩
  · exact h.elim
/-- xs[e] = value -/
def sPutL (i : Nat) (ti tv : QE) (DP : PEnds) (ρ : Env) : Prop := tv ρ fun r ρ1 => isL ρ1 i ∧ ti ρ1 fun n ρ2 => match r.w, n.w, ρ2[i]? with
  | .d d, .d (.int j), some (.l ds) => ∃ k, ixN ds.length j = some k ∧ DP.nx (ρ2.set i (.l (ds.set k d)))
  | _, _, _ => False
theorem lift_putL {K : PySem.W.Frag} {i : Nat} {D : Ends} {σ : St} {H : Hp} (h : liftS K B (sPutL i ti tv) D σ H) : tAsg (lift K B tv) (gSub (tVar i) (lift K B ti) rSetL) D σ H := by
  obtain ⟨G, F, ρ, DP, k, h, en⟩ := h
  refine lift_use k h fun r ρ1 v H1 F1 ⟨hi, h1⟩ k1 w1 e1 => ?_
  obtain ⟨a, xs, ds, r1, r2, r3, r4⟩ := isL_ref k1 hi
  refine ⟨.ref a, r2, lift_use k1 h1 fun n ρ2 u H2 F2 h2 k2 w2 e2 => ?_⟩
  split at h2
  · rename_i d j ds' g1 g2 g3
    obtain ⟨q, h3, h4⟩ := h2
    rw [g1] at w1
    rw [g2] at w2
    cases w2
    obtain ⟨a', xs', s1, s2, s3⟩ := k2.2.varL g3
    rw [r2] at s1
    cases s1
    exact ⟨a, xs', j, q, rfl, rfl, s2, by rw [s3.length]; exact h3, en.nx _ _ _ _ h4 (st_set k2 g3 r2 (s3.set (Rp.mono e2 w1) q)) (e1.trans e2)⟩
  · exact h2.elim
theorem s_putL (i : Nat) (hv : PE X e2 (lift X.K B tv)) (hi : PE X e (lift X.K B ti)) (hN : X.N[i]? = some x := by rfl) (hx : Vis X.env.scope x := by first | exact Or.inl rfl | exact Or.inr (Or.inl rfl) | exact Or.inr (Or.inr rfl)) (hd : (x == ("__debug__" : Str)) = false := by decide) (hcd : (x == ("__classdict__" : Str)) = false := by decide)
    (hs : swapsWithSole [.Subscript (.Name x xp) e tpos] e2 spos.line X.env = pure false := by rfl) (hw : swappedStores [.Subscript (.Name x xp) e tpos] e2 X.env = pure none := by rfl) (h1 : (assignEach [.Subscript (.Name x xp) e tpos] X.env).map (·.2) = [assign (.Subscript (.Name x xp) e tpos) X.env] := by rfl)
    (ha : ∀ v, assign (.Subscript (.Name x xp) e tpos) X.env v = (do
      let ov ← holding [v] (eval (.Name x xp) X.env)
      let iv ← holding [v, ov] (eval e X.env)
      standAt tpos
      holding [v, ov, iv] (setItem ov iv v)
      release [v, ov, iv] []) := by intro _; rfl) : PS X (.Assign [.Subscript (.Name x xp) e tpos] e2 spos) (liftS X.K B (sPutL i ti tv)) :=
  weakS (ps_asg hv (pg_sub (pe_var hN hx hd hcd) hi set_list ha) hs hw h1) fun _ _ _ => lift_putL
/-- xs.pop(e) -/
def qPopAt (i : Nat) (te : QE) (ρ : Env) (Q : T → Env → Prop) : Prop := isL ρ i ∧ te ρ fun r ρ1 => match r.w, ρ1[i]? with
  | .d (.int j), some (.l ds) => (-(2 ^ 63) ≤ j ∧ j < 2 ^ 63) ∧ ∃ k d, seqIndex? j ds.length = some k ∧ ds[k]? = some d ∧ Q (.d d) (ρ1.set i (.l (ds.eraseIdx k)))
  | _, _ => False
theorem lift_popAt {K : PySem.W.Frag} {i : Nat} {σ : St} {H : Hp} {Q : VK} (h : lift K B (qPopAt i te) σ H Q) : tBM K "list" rPopAt (tVar i) (tCons (lift K B te) tNil) σ H Q := by
  obtain ⟨G, F, ρ, P, k, ⟨hi, h⟩, q⟩ := h
  obtain ⟨a, xs, ds, r1, r2, r3, r4⟩ := isL_ref k hi
  refine ⟨.ref a, r2, .inl ⟨rfl, _, .inl (.inl r3)⟩, lift_use k h fun r ρ1 v H1 F1 h1 k1 w1 e1 => ?_⟩
  split at h1
  · rename_i j ds' g1 g2
    obtain ⟨⟨b1, b2⟩, n, d, h3, h4, h5⟩ := h1
    rw [g1] at w1
    cases w1
    obtain ⟨a', xs', s1, s2, s3⟩ := k1.2.varL g2
    rw [r2] at s1
    cases s1
    obtain ⟨y, hy, ry⟩ := s3.get h4
    exact ⟨a, xs', j, n, y, rfl, rfl, s2, b1, b2, by rw [s3.length]; exact h3, hy, q _ _ _ _ _ h5 ((st_set k1 g2 r2 (s3.eraseIdx n)).d ry) e1⟩
  · exact h1.elim
theorem q_popAt (i : Nat) (he : PE X e (lift X.K B te)) (hN : X.N[i]? = some x := by rfl) (hv : Vis X.env.scope x := by first | exact Or.inl rfl | exact Or.inr (Or.inl rfl) | exact Or.inr (Or.inr rfl)) (hd : (x == ("__debug__" : Str)) = false := by decide)
    (hcd : (x == ("__classdict__" : Str)) = false := by decide) (hbase : attributeBase (.Name x xp) "pop" X.env (eval (.Name x xp) X.env) = eval (.Name x xp) X.env := by rfl)
    (hfew : ((backTo cpos (starEach [e] X.env)).all (fun x => !x.1) && (backToKw cpos (keywordEach [] X.env)).all (fun x => x.1.isSome) && decide ([e].length + ([] : List Keyword).length + (if ([] : List Keyword).isEmpty then 0 else 1) < 30)) = true := by rfl)
    (hline : (apos.endLine == cpos.line) = true := by rfl) (hs : starEach [e] X.env = (false, eval e X.env) :: starEach [] X.env := by rfl) (hplain : (backTo cpos (starEach [] X.env)).any (·.1) = false := by rfl) :
    PE X (.Call (.Attribute (.Name x xp) "pop" apos) [e] [] cpos) (lift X.K B (qPopAt i te)) :=
  weakE (pe_bm PySem.F.plainAttrs_list PySem.F.slot_list_pop PySem.F.type_list_pop mt_popAt (pe_var hN hv hd hcd) (pa_cons he pa_nil hs) hbase hfew hline hs hplain) fun _ _ _ => lift_popAt
/-- xs.pop() -/
def qPop (i : Nat) (ρ : Env) (Q : T → Env → Prop) : Prop := match ρ[i]? with
  | some (.l ds) => ∃ d, ds[ds.length - 1]? = some d ∧ Q (.d d) (ρ.set i (.l ds.dropLast))
  | _ => False
theorem RpAll.dropLast {K : PySem.W.Frag} {F : Hp} {xs : List V} {ds : List D} (r : RpAll K F xs ds) : RpAll K F xs.dropLast ds.dropLast := by
  rw [List.dropLast_eq_take, List.dropLast_eq_take, r.length]
  generalize ds.length - 1 = n
  induction n generalizing xs ds with
  | zero => simp; exact .nil
  | succ n ih =>
    cases r with
    | nil => simp; exact .nil
    | cons h t => exact .cons h (ih t)
theorem lift_pop {K : PySem.W.Frag} {i : Nat} {σ : St} {H : Hp} {Q : VK} (h : lift K B (qPop i) σ H Q) : tBM0 K "list" rPop (tVar i) σ H Q := by
  obtain ⟨G, F, ρ, P, k, h, q⟩ := h
  unfold qPop at h
  split at h
  · rename_i ds g
    obtain ⟨d, h1, h2⟩ := h
    obtain ⟨a, xs, s1, s2, s3⟩ := k.2.varL g
    obtain ⟨y, hy, ry⟩ := s3.get h1
    rw [← s3.length] at hy
    exact ⟨.ref a, s1, .inl ⟨rfl, _, .inl (.inl s2)⟩, a, xs, y, rfl, rfl, s2, hy, q _ _ _ _ _ h2 ((st_set k g s1 s3.dropLast).d ry) (Same.refl F)⟩
  · exact h.elim
theorem q_pop (i : Nat) (hN : X.N[i]? = some x := by rfl) (hv : Vis X.env.scope x := by first | exact Or.inl rfl | exact Or.inr (Or.inl rfl) | exact Or.inr (Or.inr rfl)) (hd : (x == ("__debug__" : Str)) = false := by decide)
    (hcd : (x == ("__classdict__" : Str)) = false := by decide) (hbase : attributeBase (.Name x xp) "pop" X.env (eval (.Name x xp) X.env) = eval (.Name x xp) X.env := by rfl) (hline : (apos.endLine == cpos.line) = true := by rfl) :
    PE X (.Call (.Attribute (.Name x xp) "pop" apos) [] [] cpos) (lift X.K B (qPop i)) :=
  weakE (pe_bm0 PySem.F.plainAttrs_list PySem.F.slot_list_pop PySem.F.type_list_pop mt_pop (pe_var hN hv hd hcd) hbase hline) fun _ _ _ => lift_pop
/-- xs.extend(e) -/
def qExt (i : Nat) (te : QE) (ρ : Env) (Q : T → Env → Prop) : Prop := isL ρ i ∧ te ρ fun r ρ1 => match r.w, ρ1[i]? with
  | .d (.list es), some (.l ds) => ds.length + es.length ≤ sizeLine ∧ Q (.d .none) (ρ1.set i (.l (ds ++ es)))
  | _, _ => False
theorem lift_ext {K : PySem.W.Frag} {i : Nat} {σ : St} {H : Hp} {Q : VK} (h : lift K B (qExt i te) σ H Q) : tBM K "list" rExtend (tVar i) (tCons (lift K B te) tNil) σ H Q := by
  obtain ⟨G, F, ρ, P, k, ⟨hi, h⟩, q⟩ := h
  obtain ⟨a, xs, ds, r1, r2, r3, r4⟩ := isL_ref k hi
  refine ⟨.ref a, r2, .inl ⟨rfl, _, .inl (.inl r3)⟩, lift_use k h fun r ρ1 v H1 F1 h1 k1 w1 e1 => ?_⟩
  split at h1
  · rename_i es ds' g1 g2
    obtain ⟨h3, h5⟩ := h1
    rw [g1] at w1
    obtain ⟨a', xs', s1, s2, s3⟩ := k1.2.varL g2
    rw [r2] at s1
    cases s1
    cases w1 with
    | lst hh rr =>
      exact ⟨a, _, xs', _, rfl, rfl, s2, k1.2.f _ _ hh, by rw [s3.length, rr.length]; exact h3, q _ _ _ _ _ h5 ((st_set k1 g2 r2 (s3.append rr)).d .non) e1⟩
  · exact h1.elim
theorem q_ext (i : Nat) (he : PE X e (lift X.K B te)) (hN : X.N[i]? = some x := by rfl) (hv : Vis X.env.scope x := by first | exact Or.inl rfl | exact Or.inr (Or.inl rfl) | exact Or.inr (Or.inr rfl)) (hd : (x == ("__debug__" : Str)) = false := by decide)
    (hcd : (x == ("__classdict__" : Str)) = false := by decide) (hbase : attributeBase (.Name x xp) "extend" X.env (eval (.Name x xp) X.env) = eval (.Name x xp) X.env := by rfl)
    (hfew : ((backTo cpos (starEach [e] X.env)).all (fun x => !x.1) && (backToKw cpos (keywordEach [] X.env)).all (fun x => x.1.isSome) && decide ([e].length + ([] : List Keyword).length + (if ([] : List Keyword).isEmpty then 0 else 1) < 30)) = true := by rfl)
    (hline : (apos.endLine == cpos.line) = true := by rfl) (hs : starEach [e] X.env = (false, eval e X.env) :: starEach [] X.env := by rfl) (hplain : (backTo cpos (starEach [] X.env)).any (·.1) = false := by rfl) :
    PE X (.Call (.Attribute (.Name x xp) "extend" apos) [e] [] cpos) (lift X.K B (qExt i te)) :=
  weakE (pe_bm PySem.F.plainAttrs_list PySem.F.slot_list_extend PySem.F.type_list_extend mt_extend (pe_var hN hv hd hcd) (pa_cons he pa_nil hs) hbase hfew hline hs hplain) fun _ _ _ => lift_ext
end
end PL

set_option Elab.async false
set_option linter.all false
set_option maxRecDepth 100000
/-! PL, part 17: dicts of one's own, keys ints and texts (k) or tuples of them (kt). -/
namespace PL
open PySem PySem.Spec L2
section
variable {κ : Type} [DecidableEq κ]
def valD (kds : List (κ × D)) (k : κ) : Option D := (kds.find? fun kv => decide (kv.1 = k)).map (·.2)
def putD (kds : List (κ × D)) (k : κ) (d : D) : List (κ × D) :=
  if (kds.any fun kv => decide (kv.1 = k)) = true then kds.map (fun kv => if kv.1 = k then (kv.1, d) else kv) else kds ++ [(k, d)]
inductive RK (K : PySem.W.Frag) (F : Hp) : List (κ × V) → List (κ × D) → Prop
  | nil : RK K F [] []
  | cons {k : κ} {v : V} {vs : List (κ × V)} {d : D} {ds : List (κ × D)} : Rp K F v d → RK K F vs ds → RK K F ((k, v) :: vs) ((k, d) :: ds)
variable {K : PySem.W.Frag} {F : Hp}
theorem RK.any : ∀ {kvs : List (κ × V)} {kds : List (κ × D)} (k : κ), RK K F kvs kds → (kvs.any fun kv => decide (kv.1 = k)) = kds.any fun kv => decide (kv.1 = k)
  | _, _, _, .nil => rfl
  | _, _, k, .cons _ r => by simp only [List.any_cons, RK.any k r]
theorem RK.length : ∀ {kvs : List (κ × V)} {kds : List (κ × D)}, RK K F kvs kds → kvs.length = kds.length
  | _, _, .nil => rfl
  | _, _, .cons _ r => congrArg (· + 1) r.length
theorem RK.val : ∀ {kvs : List (κ × V)} {kds : List (κ × D)} (k : κ), RK K F kvs kds → (valV kvs k = none ∧ valD kds k = none) ∨ ∃ v d, valV kvs k = some v ∧ valD kds k = some d ∧ Rp K F v d
  | _, _, _, .nil => .inl ⟨rfl, rfl⟩
  | _, _, k, .cons (k := k') (v := v) (d := d) h r => by
    unfold valV valD
    by_cases e : k' = k
    · exact .inr ⟨v, d, by simp [e], by simp [e], h⟩
    · have := RK.val k r
      unfold valV valD at this
      simpa [List.find?_cons, e] using this
theorem RK.map {v : V} {d : D} (k : κ) (h : Rp K F v d) : ∀ {kvs : List (κ × V)} {kds : List (κ × D)}, RK K F kvs kds → RK K F (kvs.map fun kv => if kv.1 = k then (kv.1, v) else kv) (kds.map fun kv => if kv.1 = k then (kv.1, d) else kv)
  | _, _, .nil => .nil
  | _, _, .cons (k := k') q r => by
    simp only [List.map_cons]
    by_cases e : k' = k
    · simp only [e, if_true]
      exact .cons h (RK.map k h r)
    · simp only [e, if_false]
      exact .cons q (RK.map k h r)
theorem RK.snoc {v : V} {d : D} (k : κ) (h : Rp K F v d) : ∀ {kvs : List (κ × V)} {kds : List (κ × D)}, RK K F kvs kds → RK K F (kvs ++ [(k, v)]) (kds ++ [(k, d)])
  | _, _, .nil => .cons h .nil
  | _, _, .cons q r => .cons q (RK.snoc k h r)
theorem RK.put {v : V} {d : D} {kvs : List (κ × V)} {kds : List (κ × D)} (k : κ) (r : RK K F kvs kds) (h : Rp K F v d) : RK K F (putK kvs k v) (putD kds k d) := by
  unfold putK putD
  rw [r.any k]
  split
  · exact r.map k h
  · exact r.snoc k h
theorem RK.mono {F' : Hp} (e : Same F F') : ∀ {kvs : List (κ × V)} {kds : List (κ × D)}, RK K F kvs kds → RK K F' kvs kds
  | _, _, .nil => .nil
  | _, _, .cons q r => .cons (q.mono e) (r.mono e)
theorem valD_nil {k : κ} : valD ([] : List (κ × D)) k = none := rfl
theorem length_putD (kds : List (κ × D)) (k : κ) (d : D) : (putD kds k d).length ≤ kds.length + 1 := by
  unfold putD
  split
  · rw [List.length_map]; omega
  · rw [List.length_append]; exact Nat.le_refl _
end
section
variable {K : PySem.W.Frag} {F : Hp}
theorem rk_of : ∀ {kvs : List (Key × V)} {kds : List (Key × D)}, RpKv K F kvs kds → RK K F kvs kds
  | _, _, .nil => .nil
  | _, _, .cons h r => .cons h (rk_of r)
theorem of_rk : ∀ {kvs : List (Key × V)} {kds : List (Key × D)}, RK K F kvs kds → RpKv K F kvs kds
  | _, _, .nil => .nil
  | _, _, .cons h r => .cons h (of_rk r)
theorem rt_of : ∀ {kvs : List (List Key × V)} {kds : List (List Key × D)}, RpKt K F kvs kds → RK K F kvs kds
  | _, _, .nil => .nil
  | _, _, .cons h r => .cons h (rt_of r)
theorem of_rt : ∀ {kvs : List (List Key × V)} {kds : List (List Key × D)}, RK K F kvs kds → RpKt K F kvs kds
  | _, _, .nil => .nil
  | _, _, .cons h r => .cons h (of_rt r)
/-! ### keys of data -/
def keyOf : D → Option Key
  | .int i => some (.inl i)
  | .str x => some (.inr x)
  | _ => none
def keysAll : List D → Option (List Key)
  | [] => some []
  | d :: ds => match keyOf d, keysAll ds with
    | some k, some ks => some (k :: ks)
    | _, _ => none
def keysOf : D → Option (List Key)
  | .tuple ds => keysAll ds
  | _ => none
theorem key_rp {v : V} {d : D} {k : Key} (h : Rp K F v d) (e : keyOf d = some k) : v = kV k := by
  cases h <;> simp [keyOf] at e <;> subst e <;> rfl
theorem keys_rp : ∀ {xs : List V} {ds : List D} {ks : List Key}, RpAll K F xs ds → keysAll ds = some ks → xs = ks.map kV
  | _, _, _, .nil, e => by
    cases e
    rfl
  | _, _, _, .cons (d := d) (ds := ds) h r, e => by
    unfold keysAll at e
    cases h1 : keyOf d with
    | none => rw [h1] at e; cases e
    | some k =>
      cases h2 : keysAll ds with
      | none => rw [h1, h2] at e; cases e
      | some ks =>
        rw [h1, h2] at e
        cases e
        rw [key_rp h h1, keys_rp r h2]
        rfl
theorem keys_t {v : V} {d : D} {ks : List Key} (h : Rp K F v d) (e : keysOf d = some ks) : ∃ b, v = .ref b ∧ F b = some (.tup (ks.map kV)) := by
  unfold keysOf at e
  split at e
  · cases h with
    | tup s r =>
      rw [keys_rp r e] at s
      exact ⟨_, rfl, s⟩
  · cases e
theorem keysAll_nats : ∀ ns : List Nat, keysAll (nats ns) = some (ns.map fun n => .inl ((n : Nat) : Int))
  | [] => rfl
  | n :: ns => by
    have ih := keysAll_nats ns
    unfold nats at ih
    simp only [nats, List.map_cons, keysAll, keyOf, ih]
theorem keysOf_nats (ns : List Nat) : keysOf (.tuple (nats ns)) = some (ns.map fun n => .inl ((n : Nat) : Int)) := keysAll_nats ns
/-! ### the slot holds a dict of one's own -/
def isDct (ρ : Env) (i : Nat) : Prop := match ρ[i]? with
  | some (.k _) => True
  | some (.kt _) => True
  | _ => False
/-- what the dict of slot i holds at the key -/
def atD (ρ : Env) (i : Nat) (d : D) (Q : Option D → Prop) : Prop := match ρ[i]? with
  | some (.k kds) => match keyOf d with
    | some k => Q (valD kds k)
    | none => False
  | some (.kt kds) => match keysOf d with
    | some k => Q (valD kds k)
    | none => False
  | _ => False
def setD (ρ : Env) (i : Nat) (d e : D) (Q : Env → Prop) : Prop := match ρ[i]? with
  | some (.k kds) => match keyOf d with
    | some k => kds.length < sizeLine ∧ Q (ρ.set i (.k (putD kds k e)))
    | none => False
  | some (.kt kds) => match keysOf d with
    | some k => kds.length < sizeLine ∧ Q (ρ.set i (.kt (putD kds k e)))
    | none => False
  | _ => False
variable {B : Box} {G H : Hp} {σ : St} {ρ : Env} {i : Nat}
theorem isDct_ref (k : St0 K B G F H σ ρ) (h : isDct ρ i) : ∃ a, σ[i]? = some (some (.ref a)) ∧ IsD H a := by
  unfold isDct at h
  obtain ⟨fp, k'⟩ := k.2
  split at h
  · rename_i kds e
    obtain ⟨a, kvs, h1, h2, _⟩ := k'.own i _ e
    exact ⟨a, join_get h1, .inl ⟨kvs, .inl h2⟩⟩
  · rename_i kds e
    obtain ⟨a, kvs, h1, h2, _⟩ := k'.own i _ e
    exact ⟨a, join_get h1, .inr ⟨kvs, .inl h2⟩⟩
  · exact h.elim
theorem atD_get {a : Addr} {y : V} {d : D} {Q : Option D → Prop} (k : St0 K B G F H σ ρ) (ha : σ[i]? = some (some (.ref a))) (hy : Rp K F y d) (h : atD ρ i d Q) : ∃ o r, DGet H a y o ∧ Q r ∧ ((o = none ∧ r = none) ∨ ∃ v e, o = some v ∧ r = some e ∧ Rp K F v e) := by
  unfold atD at h
  obtain ⟨fp, k'⟩ := k.2
  split at h
  · rename_i kds e
    split at h
    · rename_i key hk
      obtain ⟨a', kvs, h1, h2, h3, _⟩ := k'.own i _ e
      rw [get_join ha] at h1
      cases h1
      rw [key_rp hy hk]
      exact ⟨_, _, DGet.k h2, h, (rk_of h3).val key⟩
    · exact h.elim
  · rename_i kds e
    split at h
    · rename_i key hk
      obtain ⟨a', kvs, h1, h2, h3, _⟩ := k'.own i _ e
      rw [get_join ha] at h1
      cases h1
      obtain ⟨b, rfl, hb⟩ := keys_t hy hk
      exact ⟨_, _, DGet.t h2 (k'.f _ _ hb), h, (rt_of h3).val key⟩
    · exact h.elim
  · exact h.elim
theorem setD_put {a : Addr} {y v : V} {d e : D} {Q : Env → Prop} (k : St0 K B G F H σ ρ) (ha : σ[i]? = some (some (.ref a))) (hy : Rp K F y d) (hv : Rp K F v e) (h : setD ρ i d e Q) : ∃ H' ρ', DPut H a y v H' ∧ Q ρ' ∧ St0 K B G F H' σ ρ' := by
  unfold setD at h
  split at h
  · rename_i kds g
    split at h
    · rename_i key hk
      obtain ⟨hl, h⟩ := h
      have own : ∃ kvs, H a = some (.dK kvs) ∧ RpKv K F kvs kds := by
        obtain ⟨fp, k'⟩ := k.2
        obtain ⟨a', kvs, h1, h2, h3, _⟩ := k'.own i _ g
        rw [get_join ha] at h1
        cases h1
        exact ⟨kvs, h2, h3⟩
      obtain ⟨kvs, h2, h3⟩ := own
      rw [key_rp hy hk]
      refine ⟨_, _, DPut.k h2 (by rw [(rk_of h3).length]; exact hl), h, mem_set_still k.1 trivial, k.2.write (o := .dK kvs) g fun fp hq => ?_⟩
      obtain ⟨b, xs, e1, e2, q, hf⟩ := hq
      rw [get_join ha] at e1
      cases e1
      exact ⟨hf, _, _, get_join ha, upd_same, of_rk ((rk_of h3).put key hv), hf⟩
    · exact h.elim
  · rename_i kds g
    split at h
    · rename_i key hk
      obtain ⟨hl, h⟩ := h
      have own : ∃ kvs, H a = some (.dT kvs) ∧ RpKt K F kvs kds := by
        obtain ⟨fp, k'⟩ := k.2
        obtain ⟨a', kvs, h1, h2, h3, _⟩ := k'.own i _ g
        rw [get_join ha] at h1
        cases h1
        exact ⟨kvs, h2, h3⟩
      obtain ⟨kvs, h2, h3⟩ := own
      obtain ⟨b, rfl, hb⟩ := keys_t hy hk
      refine ⟨_, _, DPut.t h2 (k.2.f _ _ hb) (by rw [(rt_of h3).length]; exact hl), h, mem_set_still k.1 trivial, k.2.write (o := .dT kvs) g fun fp hq => ?_⟩
      obtain ⟨b, xs, e1, e2, q, hf⟩ := hq
      rw [get_join ha] at e1
      cases e1
      exact ⟨hf, _, _, get_join ha, upd_same, of_rt ((rt_of h3).put key hv), hf⟩
    · exact h.elim
  · exact h.elim
theorem St0.newK {p : Addr} (k : St0 K B G F H σ ρ) (h : H p = none) : Fl K B G F (upd H p (.dK [])) σ ρ (.ref p) (.k []) := ⟨k.1, k.2.newO h ⟨p, [], rfl, upd_same, .nil, fun b => Iff.rfl⟩, fun i e => nomatch e⟩
theorem St0.newKt {p : Addr} (k : St0 K B G F H σ ρ) (h : H p = none) : Fl K B G F (upd H p (.dT [])) σ ρ (.ref p) (.kt []) := ⟨k.1, k.2.newO h ⟨p, [], rfl, upd_same, .nil, fun b => Iff.rfl⟩, fun i e => nomatch e⟩
end
section
variable {X : Cx} {B : Box} {x : Str} {xp apos cpos spos tpos pos p : Pos} {e e2 : Expr} {te tv ty tx : QE}
/-- {} -/
def qNewK (ρ : Env) (Q : T → Env → Prop) : Prop := Q (.k []) ρ
def qNewKt (ρ : Env) (Q : T → Env → Prop) : Prop := Q (.kt []) ρ
theorem q_newK : PE X (.Dict [] [] pos) (lift X.K B qNewK) := weakE pe_dnewK fun σ H Q ⟨G, F, ρ, P, k, h, q⟩ => fun a ha => q _ _ _ _ _ h (k.newK ha) (Same.refl F)
theorem q_newKt : PE X (.Dict [] [] pos) (lift X.K B qNewKt) := weakE pe_dnewT fun σ H Q ⟨G, F, ρ, P, k, h, q⟩ => fun a ha => q _ _ _ _ _ h (k.newKt ha) (Same.refl F)
/-- d[e] = value -/
def sPutD (i : Nat) (ty tv : QE) (DP : PEnds) (ρ : Env) : Prop := tv ρ fun r ρ1 => isDct ρ1 i ∧ ty ρ1 fun n ρ2 => match r.w, n.w with
  | .d e, .d d => setD ρ2 i d e DP.nx
  | _, _ => False
theorem s_putD (i : Nat) (hu : X.A.units + 64 < cLine) (hv : PE X e2 (lift X.K B tv)) (hi : PE X e (lift X.K B ty)) (hN : X.N[i]? = some x := by rfl) (hx : Vis X.env.scope x := by first | exact Or.inl rfl | exact Or.inr (Or.inl rfl) | exact Or.inr (Or.inr rfl)) (hd : (x == ("__debug__" : Str)) = false := by decide) (hcd : (x == ("__classdict__" : Str)) = false := by decide)
    (hs : swapsWith e2 (some (.Subscript (.Name x xp) e tpos)) spos.line X.env = pure false := by rfl) : PS X (.Assign [.Subscript (.Name x xp) e tpos] e2 spos) (liftS X.K B (sPutD i ty tv)) :=
  weakS (ps_dput (Nat.lt_of_le_of_lt (by omega) hu) (pe_var hN hx hd hcd) hi hv hs) fun D σ H ⟨G, F, ρ, DP, k, h, en⟩ => by
    refine lift_use k h fun r ρ1 v H1 F1 ⟨hi, h1⟩ k1 w1 e1 => ?_
    obtain ⟨a, r1, r2⟩ := isDct_ref k1 hi
    refine ⟨.ref a, r1, lift_use k1 h1 fun n ρ2 y H2 F2 h2 k2 w2 e2 => ?_⟩
    split at h2
    · rename_i ev kd g1 g2
      rw [g1] at w1
      rw [g2] at w2
      obtain ⟨H', ρ', z1, z2, z3⟩ := setD_put k2 r1 w2 (Rp.mono e2 w1) h2
      exact ⟨a, H', rfl, z1, en.nx _ _ _ _ z2 z3 (e1.trans e2)⟩
    · exact h2.elim
/-- d[e] -/
def qGetD (i : Nat) (ty : QE) (ρ : Env) (Q : T → Env → Prop) : Prop := isDct ρ i ∧ ty ρ fun n ρ1 => match n.w with
  | .d d => atD ρ1 i d fun o => match o with
    | some e => Q (.d e) ρ1
    | none => False
  | _ => False
theorem q_getD (i : Nat) (hu : X.A.units + 64 < cLine) (hi : PE X e (lift X.K B ty)) (hsl : NoSl e := by exact fun _ _ => rfl) (hN : X.N[i]? = some x := by rfl) (hx : Vis X.env.scope x := by first | exact Or.inl rfl | exact Or.inr (Or.inl rfl) | exact Or.inr (Or.inr rfl)) (hd : (x == ("__debug__" : Str)) = false := by decide) (hcd : (x == ("__classdict__" : Str)) = false := by decide) :
    PE X (.Subscript (.Name x xp) e pos) (lift X.K B (qGetD i ty)) :=
  weakE (pe_dget (Nat.lt_of_le_of_lt (by omega) hu) (pe_var hN hx hd hcd) hi hsl) fun σ H Q ⟨G, F, ρ, P, k, ⟨hi, h⟩, q⟩ => by
    obtain ⟨a, r1, r2⟩ := isDct_ref k hi
    refine ⟨.ref a, r1, lift_use k h fun n ρ1 y H1 F1 h1 k1 w1 e1 => ?_⟩
    split at h1
    · rename_i kd g1
      rw [g1] at w1
      obtain ⟨o, r, z1, z2, z3⟩ := atD_get k1 r1 w1 h1
      rcases z3 with ⟨rfl, rfl⟩ | ⟨v, ev, rfl, rfl, rv⟩
      · exact z2.elim
      · exact ⟨a, v, rfl, z1, q _ _ _ _ _ z2 (k1.d rv) e1⟩
    · exact h1.elim
/-- e in d, e not in d -/
def qInD (neg : Bool) (i : Nat) (ty : QE) (ρ : Env) (Q : T → Env → Prop) : Prop := ty ρ fun n ρ1 => isDct ρ1 i ∧ match n.w with
  | .d d => atD ρ1 i d fun o => Q (.d (.bool (xor neg o.isSome))) ρ1
  | _ => False
theorem rd_in {K : PySem.W.Frag} {i : Nat} {σ : St} {H : Hp} {Q : VK} (h : lift K B (qInD false i ty) σ H Q) : tDIn (lift K B ty) (tVar i) σ H Q := by
  obtain ⟨G, F, ρ, P, k, h, q⟩ := h
  refine lift_use k h fun n ρ1 y H1 F1 ⟨hi, h1⟩ k1 w1 e1 => ?_
  obtain ⟨a, r1, r2⟩ := isDct_ref k1 hi
  split at h1
  · rename_i kd g1
    rw [g1] at w1
    obtain ⟨o, r, z1, z2, z3⟩ := atD_get k1 r1 w1 h1
    refine ⟨.ref a, r1, a, o, rfl, z1, ?_⟩
    rcases z3 with ⟨rfl, rfl⟩ | ⟨v, ev, rfl, rfl, rv⟩
    · exact q _ _ _ _ _ z2 (k1.d (.bl _)) e1
    · exact q _ _ _ _ _ z2 (k1.d (.bl _)) e1
  · exact h1.elim
theorem rd_ni {K : PySem.W.Frag} {i : Nat} {σ : St} {H : Hp} {Q : VK} (h : lift K B (qInD true i ty) σ H Q) : tDNotIn (lift K B ty) (tVar i) σ H Q := by
  obtain ⟨G, F, ρ, P, k, h, q⟩ := h
  refine lift_use k h fun n ρ1 y H1 F1 ⟨hi, h1⟩ k1 w1 e1 => ?_
  obtain ⟨a, r1, r2⟩ := isDct_ref k1 hi
  split at h1
  · rename_i kd g1
    rw [g1] at w1
    obtain ⟨o, r, z1, z2, z3⟩ := atD_get k1 r1 w1 h1
    refine ⟨.ref a, r1, a, o, rfl, z1, ?_⟩
    rcases z3 with ⟨rfl, rfl⟩ | ⟨v, ev, rfl, rfl, rv⟩
    · exact q _ _ _ _ _ z2 (k1.d (.bl _)) e1
    · exact q _ _ _ _ _ z2 (k1.d (.bl _)) e1
  · exact h1.elim
theorem lift_tB {K : PySem.W.Frag} {t : QE} {t0 : TE} (w : ∀ {σ : St} {H : Hp} {Q : VK}, lift K B t σ H Q → t0 σ H Q) {σ : St} {H : Hp} {Q : Bool → Hp → Prop} (h : liftT K B (qTst t) σ H Q) : tB t0 σ H Q := by
  obtain ⟨G, F, ρ, P, k, h, q⟩ := h
  refine w ⟨G, F, ρ, _, k, h, fun r ρ' v H' F' h' fl e => ?_⟩
  split at h'
  · have := fl_d fl
    cases this
    exact ⟨_, rfl, q _ _ _ _ h' fl.pop e⟩
  · exact h'.elim
theorem t_inD (i : Nat) (hu : X.A.units + 64 < cLine) (hi : PE X e (lift X.K B ty)) (hN : X.N[i]? = some x := by rfl) (hx : Vis X.env.scope x := by first | exact Or.inl rfl | exact Or.inr (Or.inl rfl) | exact Or.inr (Or.inr rfl)) (hd : (x == ("__debug__" : Str)) = false := by decide) (hcd : (x == ("__classdict__" : Str)) = false := by decide) :
    PT X (.Compare e [.In] [.Name x xp] pos) (liftT X.K B (qTst (qInD false i ty))) :=
  weakT (pt_cmp (pc_din (Nat.lt_of_le_of_lt (by omega) hu) hi (pe_var hN hx hd hcd)) (by rfl)) fun _ _ _ => lift_tB rd_in
theorem t_niD (i : Nat) (hu : X.A.units + 64 < cLine) (hi : PE X e (lift X.K B ty)) (hN : X.N[i]? = some x := by rfl) (hx : Vis X.env.scope x := by first | exact Or.inl rfl | exact Or.inr (Or.inl rfl) | exact Or.inr (Or.inr rfl)) (hd : (x == ("__debug__" : Str)) = false := by decide) (hcd : (x == ("__classdict__" : Str)) = false := by decide) :
    PT X (.Compare e [.NotIn] [.Name x xp] pos) (liftT X.K B (qTst (qInD true i ty))) :=
  weakT (pt_cmp (pc_dnotin (Nat.lt_of_le_of_lt (by omega) hu) hi (pe_var hN hx hd hcd)) (by rfl)) fun _ _ _ => lift_tB rd_ni
/-- d.get(e, e2) -/
def qGet2D (i : Nat) (ty tx : QE) (ρ : Env) (Q : T → Env → Prop) : Prop := isDct ρ i ∧ ty ρ fun n ρ1 => tx ρ1 fun z ρ2 => match n.w, z.w with
  | .d d, .d f => atD ρ2 i d fun o => Q (.d (o.getD f)) ρ2
  | _, _ => False
theorem q_get2D (i : Nat) (hu : X.A.units + 64 < cLine) (hy : PE X e (lift X.K B ty)) (hz : PE X e2 (lift X.K B tx)) (hN : X.N[i]? = some x := by rfl) (hx : Vis X.env.scope x := by first | exact Or.inl rfl | exact Or.inr (Or.inl rfl) | exact Or.inr (Or.inr rfl)) (hd : (x == ("__debug__" : Str)) = false := by decide) (hcd : (x == ("__classdict__" : Str)) = false := by decide)
    (m : M2 X (.Name x xp) "get" apos e e2 cpos := by exact ⟨rfl, rfl, rfl, rfl⟩) : PE X (.Call (.Attribute (.Name x xp) "get" apos) [e, e2] [] cpos) (lift X.K B (qGet2D i ty tx)) :=
  weakE (pe_dget2 (Nat.lt_of_le_of_lt (by omega) hu) (pe_var hN hx hd hcd) hy hz m) fun σ H Q ⟨G, F, ρ, P, k, ⟨hi, h⟩, q⟩ => by
    obtain ⟨a, r1, r2⟩ := isDct_ref k hi
    refine ⟨.ref a, r1, a, rfl, r2, lift_use k h fun n ρ1 y H1 F1 h1 k1 w1 e1 => lift_use k1 h1 fun z ρ2 u H2 F2 h2 k2 w2 e2 => ?_⟩
    split at h2
    · rename_i kd f g1 g2
      rw [g1] at w1
      rw [g2] at w2
      obtain ⟨o, r, z1, z2, z3⟩ := atD_get k2 r1 (Rp.mono e2 w1) h2
      rcases z3 with ⟨rfl, rfl⟩ | ⟨v, ev, rfl, rfl, rv⟩
      · exact ⟨_, z1, q _ _ _ _ _ z2 (k2.d w2) (e1.trans e2)⟩
      · exact ⟨_, z1, q _ _ _ _ _ z2 (k2.d rv) (e1.trans e2)⟩
    · exact h2.elim
/-- len(d) -/
def qLenD (i : Nat) (ρ : Env) (Q : T → Env → Prop) : Prop := match ρ[i]? with
  | some (.k kds) => Q (.d (.int ((kds.length : Nat) : Int))) ρ
  | some (.kt kds) => Q (.d (.int ((kds.length : Nat) : Int))) ρ
  | _ => False
def rLenDct : List V → Hp → VK → Prop := fun xs H Q => (∃ a kvs, xs = [V.ref a] ∧ H a = some (.dK kvs) ∧ Q (.int kvs.length) H) ∨ rLenT xs H Q
theorem call_lenDct : CallR X (.builtin "len") rLenDct := by
  intro pins s σ H xs us Q I r h
  rcases h with h | h
  · exact call_lenD pins s σ H xs us Q I r h
  · exact call_len_dT pins s σ H xs us Q I r h
theorem q_lenD (i : Nat) (hg : Gl X "len") (hm : X.mg "len" = none) (hN : X.N[i]? = some x := by rfl) (hx : Vis X.env.scope x := by first | exact Or.inl rfl | exact Or.inr (Or.inl rfl) | exact Or.inr (Or.inr rfl)) (hd : (x == ("__debug__" : Str)) = false := by decide) (hcd : (x == ("__classdict__" : Str)) = false := by decide)
    (hs : starEach [.Name x xp] X.env = (false, eval (.Name x xp) X.env) :: starEach [] X.env := by rfl) : PE X (.Call (.Name "len" p) [.Name x xp] [] cpos) (lift X.K B (qLenD i)) :=
  weakE (pe_callB call_lenDct hg hm PySem.boot_len (pa_cons (pe_var hN hx hd hcd) pa_nil hs) (by decide) (by decide) hs (by rfl)) fun σ H Q ⟨G, F, ρ, P, k, h, q⟩ => by
    unfold qLenD at h
    obtain ⟨fp, k'⟩ := k.2
    split at h
    · rename_i kds e
      obtain ⟨a, kvs, h1, h2, h3, _⟩ := k'.own i _ e
      refine ⟨.ref a, join_get h1, .inl ⟨a, kvs, rfl, h2, ?_⟩⟩
      rw [(rk_of h3).length]
      exact q _ _ _ _ _ h (k.d (.int _)) (Same.refl F)
    · rename_i kds e
      obtain ⟨a, kvs, h1, h2, h3, _⟩ := k'.own i _ e
      refine ⟨.ref a, join_get h1, .inr ⟨a, kvs, rfl, h2, ?_⟩⟩
      rw [(rt_of h3).length]
      exact q _ _ _ _ _ h (k.d (.int _)) (Same.refl F)
    · exact h.elim
end
end PL

set_option Elab.async false
set_option linter.all false
set_option maxRecDepth 100000
/-! PL, part 18: displays of dicts, sorted ints, list(range), len(set(tuples)). -/
namespace PL
open PySem PySem.Spec L2
/-! ### {k: v, ..} -/
def qPairs : List (QE × QE) → Env → (List (D × D) → Env → Prop) → Prop
  | [], ρ, Q => Q [] ρ
  | (tk, tv) :: r, ρ, Q => tk ρ fun a ρ1 => tv ρ1 fun b ρ2 => qPairs r ρ2 fun ps ρ3 => match a.w, b.w with
    | .d x, .d y => Q ((x, y) :: ps) ρ3
    | _, _ => False
def keysP : List (D × D) → Option (List (Key × D))
  | [] => some []
  | (x, y) :: r => match keyOf x, keysP r with
    | some k, some ks => some ((k, y) :: ks)
    | _, _ => none
def mergeD (kds more : List (Key × D)) : List (Key × D) := more.foldl (fun acc kv => putD acc kv.1 kv.2) kds
def qDisp (trs : List (QE × QE)) (ρ : Env) (Q : T → Env → Prop) : Prop := qPairs trs ρ fun ps ρ' => match keysP ps with
  | some kds => kds.length ≤ 15 ∧ Q (.k (mergeD [] kds)) ρ'
  | none => False
section
variable {X : Cx} {B : Box} {pos p p2 q2 q3 : Pos} {keys : List (Option Expr)} {values : List Expr} {trs : List (QE × QE)} {e e1 e2 : Expr} {te tk tv : QE}
def liftP (K : PySem.W.Frag) (B : Box) (trs : List (QE × QE)) : List (TE × TE) := trs.map fun p => (lift K B p.1, lift K B p.2)
theorem pp_nil : PPs X pos [] [] (liftP X.K B []) := pps_nil
theorem pp_cons (hk : PE X e1 (lift X.K B tk)) (hv : PE X e2 (lift X.K B tv)) (hr : PPs X pos keys values (liftP X.K B trs)) : PPs X pos (some e1 :: keys) (e2 :: values) (liftP X.K B ((tk, tv) :: trs)) := pps_cons hk hv hr
inductive PsOk (K : PySem.W.Frag) (F : Hp) : List (D × D) → List (V × V) → Prop
  | nil : PsOk K F [] []
  | cons {x y : D} {v u : V} {ds : List (D × D)} {vs : List (V × V)} : Rp K F v x → Rp K F u y → PsOk K F ds vs → PsOk K F ((x, y) :: ds) ((v, u) :: vs)
theorem pairs_use {K : PySem.W.Frag} {σ : St} : ∀ {trs : List (QE × QE)} {G F H : Hp} {ρ : Env} {P : List (D × D) → Env → Prop} {Q : List (V × V) → Hp → Prop}, St0 K B G F H σ ρ → qPairs trs ρ P →
    (∀ ps ρ' vs H' F', P ps ρ' → St0 K B G F' H' σ ρ' → PsOk K F' ps vs → Same F F' → Q vs H') → tPairs (liftP K B trs) σ H Q
  | [], G, F, H, ρ, P, Q, k, h, q => q _ _ _ _ _ h k .nil (Same.refl F)
  | (tk, tv) :: r, G, F, H, ρ, P, Q, k, h, q => lift_use k h fun a ρ1 v H1 F1 h1 k1 w1 e1 => lift_use k1 h1 fun b ρ2 u H2 F2 h2 k2 w2 e2 => pairs_use k2 h2 fun ps ρ3 vs H3 F3 h3 k3 w3 e3 => by
    split at h3
    · rename_i x y g1 g2
      rw [g1] at w1
      rw [g2] at w2
      exact q _ _ _ _ _ h3 k3 (.cons (Rp.mono (e2.trans e3) w1) (Rp.mono e3 w2) w3) ((e1.trans e2).trans e3)
    · exact h3.elim
theorem keysP_ok {K : PySem.W.Frag} {F : Hp} : ∀ {ps : List (D × D)} {vs : List (V × V)} {kds : List (Key × D)}, PsOk K F ps vs → keysP ps = some kds → ∃ kvs : List (Key × V), vs = kvs.map (fun kv => (kV kv.1, kv.2)) ∧ RK K F kvs kds
  | _, _, _, .nil, e => by
    cases e
    exact ⟨[], rfl, .nil⟩
  | _, _, _, .cons (x := x) (ds := ds) h1 h2 r, e => by
    unfold keysP at e
    cases g1 : keyOf x with
    | none => rw [g1] at e; cases e
    | some k =>
      cases g2 : keysP ds with
      | none => rw [g1, g2] at e; cases e
      | some ks =>
        rw [g1, g2] at e
        cases e
        obtain ⟨kvs, rfl, rr⟩ := keysP_ok r g2
        rw [key_rp h1 g1]
        exact ⟨(k, _) :: kvs, rfl, .cons h2 rr⟩
theorem RK.merge {K : PySem.W.Frag} {F : Hp} : ∀ {more : List (Key × V)} {mds : List (Key × D)} {kvs : List (Key × V)} {kds : List (Key × D)}, RK K F more mds → RK K F kvs kds → RK K F (mergeK kvs more) (mergeD kds mds)
  | _, _, _, _, .nil, r => r
  | _, _, _, _, .cons (k := k) h t, r => by
    have := RK.merge t (r.put k h)
    exact this
theorem q_disp (h : PPs X pos keys values (liftP X.K B trs)) (hall : keys.all (·.isSome) = true := by rfl) (hl : keys.length = values.length := by rfl) (h0 : keys ≠ [] := by decide) (h15 : keys.length ≤ 15 := by decide) : PE X (.Dict keys values pos) (lift X.K B (qDisp trs)) :=
  weakE (pe_disp h hall hl h0 h15) fun σ H Q ⟨G, F, ρ, P, k, h, q⟩ => fun a ha => by
    have hG : G a = none := (k.2.free ha).2
    refine pairs_use (k.lendO ha (.dK [])) h fun ps ρ' vs H' F' h' k' w' e' => ?_
    split at h'
    · rename_i kds g
      obtain ⟨h1, h2⟩ := h'
      obtain ⟨kvs, rfl, r⟩ := keysP_ok w' g
      refine ⟨k'.2.g a _ upd_same, kvs, rfl, by rw [r.length]; exact h1, q _ _ _ _ _ h2 ⟨k'.1, k'.2.backO hG (B.okF k.2.bx e') ⟨a, _, rfl, upd_same, of_rk (RK.merge r .nil), fun b => Iff.rfl⟩, fun i z => nomatch z⟩ e'⟩
    · exact h'.elim
/-! ### sorted(xs), ints -/
def pSortedI : List D → (T → Prop) → Prop
  | [.list ds], Q => ∃ ns : List Int, ds = ns.map .int ∧ ∀ ns' : List Int, ns'.Perm ns → ns'.Pairwise (· ≤ ·) → Q (.l (ns'.map .int))
  | _, _ => False
theorem c_sortedI {K : PySem.W.Frag} : CallD K B (rSortedI K) pSortedI := by
  intro G F H σ ρ P Q ds vs k r h q
  unfold pSortedI at h
  split at h
  · obtain ⟨ns, rfl, h⟩ := h
    obtain ⟨x, rfl, r1⟩ := r.single
    obtain ⟨a, xs, rfl, s1, t1⟩ := r1.lst k.2.f
    obtain rfl := t1.ints
    exact ⟨a, ns, rfl, .inl (.inl s1), fun ns' p h1 h2 hp => q _ _ _ _ (h ns' h1 h2) (k.newL hp (rpAll_ints _)) (Same.refl F)⟩
  · exact h.elim
/-! ### list(range(..)) -/
theorem rp_rg {K : PySem.W.Frag} {F : Hp} (a : Int) (n : Nat) : RpAll K F ((List.range n).map fun i => V.int (a + (i : Nat))) (rangeD a n) := by
  unfold rangeD
  induction List.range n with
  | nil => exact .nil
  | cons i l ih => exact .cons (.int _) ih
def qLstRg1 (te : QE) (ρ : Env) (Q : T → Env → Prop) : Prop := te ρ fun r ρ1 => match r.w with
  | .d (.int n) => (0 ≤ n ∧ n ≤ 16777216) ∧ Q (.l (rangeD 0 n.toNat)) ρ1
  | _ => False
theorem q_listRg1 (hc : X.calm = true) (hg : Gl X "list") (hm : X.mg "list" = none) (hg2 : Gl X "range") (hm2 : X.mg "range" = none) (he : PE X e (lift X.K B te))
    (na : starEach [e] X.env = (false, eval e X.env) :: starEach [] X.env := by rfl) (na2 : starEach [.Call (.Name "range" p2) [e] [] q2] X.env = (false, eval (.Call (.Name "range" p2) [e] [] q2) X.env) :: starEach [] X.env := by rfl) :
    PE X (.Call (.Name "list" p) [.Call (.Name "range" p2) [e] [] q2] [] pos) (lift X.K B (qLstRg1 te)) :=
  weakE (pe_listRg hc hg hm (prg_1 hg2 hm2 he na) na2) fun σ H Q ⟨G, F, ρ, P, k, h, q⟩ => lift_use k h fun r ρ1 v H1 F1 h1 k1 w1 e1 => by
    split at h1
    · rename_i n g
      obtain ⟨⟨b1, b2⟩, h1⟩ := h1
      rw [g] at w1
      cases w1
      refine ⟨n, rfl, RgOk.of_le (by decide) b2 (by decide) b1, fun d hd => ?_⟩
      have e0 : rgV 0 n = (List.range n.toNat).map fun i => V.int (0 + (i : Nat)) := by
        unfold rgV
        rw [Int.sub_zero]
      rw [e0]
      exact q _ _ _ _ _ h1 (k1.newL hd (rp_rg 0 n.toNat)) e1
    · exact h1.elim
/-! ### len(set(xs)), xs tuples of ints -/
def rLenST (P : Program) (w : World) (K : PySem.W.Frag) : List V → Hp → VK → Prop := fun vs H Q => ∃ (a : Addr) (L : List (Addr × List Int)), vs = [V.ref a] ∧ H a = some (SetTO P w a L) ∧ (∀ p ∈ L, SqT K H p.1 (p.2.map V.int)) ∧ ((L.map (·.2)).Nodup → Q (.int (L.length : Nat)) H)
theorem call_lenST : CallR X (.builtin "len") (rLenST X.prog X.w X.K) := by
  intro pins s σ H vs us Q I r h
  obtain ⟨a, L, rfl, ha, hk, q⟩ := h
  have R0 : SetT0 X.prog X.w s.heap a L := (I.hok a _ ha).1
  obtain ⟨es, ep, t, R⟩ := R0.full fun p hp => I.isT (hk p hp)
  rw [Vals.ref1 r]
  obtain ⟨o, ho, hex, hd⟩ := R.ob
  have hs := R.size
  have hf := R.few
  refine call_len_set ho hex hd R.fits (by rw [hs]; omega) ?_
  rw [hs]
  exact ⟨.int (L.length : Nat), H, I.tok _, ⟨_, rfl⟩, q R.nd⟩
def pLenSetT : D → (T → Prop) → Prop
  | .list ds, Q => ∃ ks : List (List Int), ds = ks.map tupI ∧ ks.length < 64 ∧ ∀ L : List (List Int), L.Nodup → (∀ k, k ∈ L ↔ k ∈ ks) → Q (.d (.int (L.length : Nat)))
  | _, _ => False
theorem q_lenSetT (hc : X.calm = true) (hu : X.A.units + 64 < cLine) (hg : Gl X "len") (hm : X.mg "len" = none) (hg2 : Gl X "set") (hm2 : X.mg "set" = none) (he : PE X e (lift X.K B te))
    (hs1 : starEach [e] X.env = (false, eval e X.env) :: starEach [] X.env := by rfl) (hs2 : starEach [.Call (.Name "set" p2) [e] [] q2] X.env = (false, eval (.Call (.Name "set" p2) [e] [] q2) X.env) :: starEach [] X.env := by rfl) :
    PE X (.Call (.Name "len" p) [.Call (.Name "set" p2) [e] [] q2] [] pos) (lift X.K B (qFn pLenSetT te)) :=
  weakE (pe_callB call_lenST hg hm PySem.boot_len (pa_cons (pe_callTy (cr_setOfT hc hu) hg2 hm2 (by rfl) (pa_cons he pa_nil hs1) (by decide) (by decide) hs1 (by rfl)) pa_nil hs2) (by decide) (by decide) hs2 (by rfl)) fun σ H Q ⟨G, F, ρ, P, k, h, q⟩ => lift_use k h fun r ρ1 v H1 F1 h1 k1 w1 e1 => by
    split at h1
    · rename_i d g
      have rq := k1.read w1 g
      unfold pLenSetT at h1
      split at h1
      · obtain ⟨ks, rfl, h2, h5⟩ := h1
        obtain ⟨l, xs, rfl, s1, t1⟩ := rq.lst k1.2.f
        obtain ⟨as, rfl, rfl, hT⟩ := tups_of t1
        have hlen : as.length < 64 := by simpa using h2
        refine ⟨l, as, rfl, .inl (.inl s1), fun p hp => same_t k1.2.f (hT p hp), hlen, fun a L ha hsub hall => ?_⟩
        have k2 := k1.dust (o := SetTO X.prog X.w a L) ha
        have hTL : ∀ p ∈ L, F1 p.1 = some (.tup (p.2.map V.int)) := fun p hp => hT p (hsub p hp)
        refine ⟨a, L, rfl, upd_same, fun p hp => same_t k2.2.f (hTL p hp), fun nd => ?_⟩
        have z := h5 (L.map (·.2)) nd fun z => Iff.intro (fun hz => ?_) (fun hz => ?_)
        · rw [List.length_map] at z
          exact q _ _ _ _ _ z (k2.d (.int _)) e1
        · obtain ⟨p, hp, rfl⟩ := List.mem_map.mp hz
          exact List.mem_map.mpr ⟨p, hsub p hp, rfl⟩
        · obtain ⟨p, hp, rfl⟩ := List.mem_map.mp hz
          exact hall p hp
      · exact h1.elim
    · exact h1.elim
end
end PL

set_option Elab.async false
set_option linter.all false
set_option maxRecDepth 100000
/-! PL, part 19: comprehensions with a test, told by an invariant; more facts of data. -/
namespace PL
open PySem PySem.Spec L2
theorem lc_invT {g : QG} {te : QE} {tt : QT} {ti : QI} {vs : List Nat} {ρ : Env} {Q : T → Env → Prop} (ds : List D) (ρ0 : Env) (I : Nat → List D → Prop) (h1 : ∀ R : List D → Env → Prop, R ds ρ0 → ti ρ R) (hb : barePl ρ0 vs) (hz : ds.length ≤ sizeLine) (i0 : I 0 []) (hl : ∀ i acc, I i acc → acc.length ≤ i)
    (step : ∀ (i : Nat) (d : D) (acc : List D), ds[i]? = some d → I i acc → ∀ (R : T → Env → Prop) (R0 : Env → Prop), (∀ r ρ4 o, r.dat = some o → wipeP ρ4 vs = wipeP ρ0 vs → I (i + 1) (acc ++ [o]) → R r ρ4) → (∀ ρ3, wipeP ρ3 vs = wipeP ρ0 vs → I (i + 1) acc → R0 ρ3) →
      g (.d d) (wipeP ρ0 vs) fun ρ2 => tt ρ2 fun b ρ3 => if b = true then te ρ3 R else R0 ρ3) (fin : ∀ acc, I ds.length acc → Q (.l acc) ρ0) : qLc ti g tt te vs ρ Q := by
  refine h1 _ ⟨hb, I, i0, fun i d acc hd ha => ?_, fin⟩
  have hi := (List.getElem?_eq_some_iff.mp hd).1
  exact step i d acc hd ha _ _ (fun r ρ4 o h1 h2 h3 => ⟨o, h1, h2, by have := hl i acc ha; omega, h3⟩) fun ρ3 h1 h2 => ⟨h1, h2⟩
/-- a list of numbers drawn, one for each item -/
theorem lc_nats {g : QG} {te : QE} {ti : QI} {vs : List Nat} {ρ : Env} {Q : T → Env → Prop} (ds : List D) (ρ0 : Env) (C : Nat → Prop) (h1 : ∀ R : List D → Env → Prop, R ds ρ0 → ti ρ R) (hb : barePl ρ0 vs) (hz : ds.length ≤ sizeLine)
    (step : ∀ (i : Nat) (d : D), ds[i]? = some d → ∀ R : T → Env → Prop, (∀ (n : Nat) ρ4, C n → wipeP ρ4 vs = wipeP ρ0 vs → R (.d (.int (n : Nat))) ρ4) → g (.d d) (wipeP ρ0 vs) fun ρ2 => te ρ2 R) (fin : ∀ ns : List Nat, ns.length = ds.length → (∀ n ∈ ns, C n) → Q (.l (nats ns)) ρ0) : qLc ti g qYes te vs ρ Q := by
  refine lc_inv ds ρ0 (fun i acc => ∃ ns : List Nat, ns.length = i ∧ acc = nats ns ∧ ∀ n ∈ ns, C n) h1 hb hz ⟨[], rfl, rfl, fun n z => nomatch z⟩ (fun i acc ⟨ns, a1, a2, _⟩ => by rw [a2]; simp [nats, a1]) (fun i d acc hd ⟨ns, a1, a2, a3⟩ R hR => step i d hd R fun n ρ4 hn hw => hR _ _ _ rfl hw ⟨ns ++ [n], by simp [a1], by rw [a2]; simp [nats], fun x hx => ?_⟩) fun acc ⟨ns, a1, a2, a3⟩ => by rw [a2]; exact fin ns a1 a3
  rcases List.mem_append.mp hx with z | z
  · exact a3 x z
  · rw [List.mem_singleton] at z
    rw [z]
    exact hn
/-- numbers below n picked by tests -/
theorem lc_sub {g : QG} {te : QE} {tt : QT} {ti : QI} {vs : List Nat} {ρ : Env} {Q : T → Env → Prop} (n : Nat) (ρ0 : Env) (h1 : ∀ R : List D → Env → Prop, R (rangeD 0 n) ρ0 → ti ρ R) (hb : barePl ρ0 vs) (hz : n ≤ 1000)
    (step : ∀ (i : Nat), i < n → ∀ (R : T → Env → Prop) (R0 : Env → Prop), (∀ ρ4, wipeP ρ4 vs = wipeP ρ0 vs → R (.d (.int (i : Nat))) ρ4) → (∀ ρ3, wipeP ρ3 vs = wipeP ρ0 vs → R0 ρ3) →
      g (.d (.int (i : Nat))) (wipeP ρ0 vs) fun ρ2 => tt ρ2 fun b ρ3 => if b = true then te ρ3 R else R0 ρ3) (fin : ∀ es : List Nat, es.length ≤ n → (∀ e ∈ es, e < n) → es.Pairwise (· < ·) → Q (.l (nats es)) ρ0) : qLc ti g tt te vs ρ Q := by
  refine lc_invT (rangeD 0 n) ρ0 (fun i acc => ∃ es : List Nat, es.length ≤ i ∧ acc = nats es ∧ (∀ e ∈ es, e < i) ∧ es.Pairwise (· < ·)) h1 hb (by rw [rangeD_len, sizeLine_eq]; omega) ⟨[], Nat.le_refl _, rfl, (fun e z => nomatch z), .nil⟩ (fun i acc ⟨es, a1, a2, _⟩ => by rw [a2]; simpa [nats] using a1) (fun i d acc hd ⟨es, a1, a2, a3, a4⟩ R R0 hR hR0 => ?_) fun acc ⟨es, a1, a2, a3, a4⟩ => ?_
  · have hi : i < n := by have := (List.getElem?_eq_some_iff.mp hd).1; rwa [rangeD_len] at this
    rw [nats_range hi] at hd
    cases hd
    refine step i hi R R0 (fun ρ4 hw => hR _ _ _ rfl hw ⟨es ++ [i], by simp; omega, by rw [a2]; simp [nats], fun e he => ?_, ?_⟩) fun ρ3 hw => hR0 _ hw ⟨es, by omega, a2, fun e he => by have := a3 e he; omega, a4⟩
    · rcases List.mem_append.mp he with z | z
      · have := a3 e z
        omega
      · rw [List.mem_singleton] at z
        omega
    · exact List.pairwise_append.mpr ⟨a4, by simp, fun x hx y hy => by rw [List.mem_singleton] at hy; have := a3 x hx; omega⟩
  · rw [rangeD_len] at a1 a3
    rw [a2]
    exact fin es a1 a3 a4
theorem natOf {r : Int} (h : 0 ≤ r) : ∃ i : Nat, r = (i : Nat) := ⟨r.toNat, by omega⟩
theorem shInt (i : Int) : SeqAt.shaped (.int i) = true := (lay_int (k := 0) i).shaped
theorem shBool (i : Bool) : SeqAt.shaped (.bool i) = true := (lay_bool (k := 0) i).shaped
theorem shNats (l : List Nat) : SeqAt.shaped (.tuple (nats l)) = true := (lay_tup (k := 0) (lay_nats _)).shaped
theorem shNatsL (l : List Nat) : SeqAt.shaped (.list (nats l)) = true := (lay_list (k := 0) (lay_nats _)).shaped
theorem szL {m : Nat} (h : m < 10000) : m ≤ sizeLine := by rw [sizeLine_eq]; omega
theorem szLt {m : Nat} (h : m < 10000) : m < sizeLine := by rw [sizeLine_eq]; omega
end PL

set_option linter.all false
set_option maxRecDepth 10000
/-! Plain facts of lists and machines, part 1: no program in sight. -/
namespace PM
section
variable {α : Type} [DecidableEq α]
/-- the first place -/
def ixOf (c : α) : List α → Option Nat
  | [] => none
  | x :: l => if x = c then some 0 else (ixOf c l).map (· + 1)
theorem ixOf_at {c : α} : ∀ {l : List α} {i : Nat}, ixOf c l = some i → l[i]? = some c ∧ ∀ j, j < i → l[j]? ≠ some c
  | [], i, h => by simp [ixOf] at h
  | x :: l, i, h => by
    unfold ixOf at h
    split at h
    · rename_i e
      cases h
      exact ⟨by simp [e], fun j hj => by omega⟩
    · rename_i e
      cases hq : ixOf c l with
      | none => rw [hq] at h; cases h
      | some k =>
        rw [hq] at h
        cases h
        obtain ⟨h1, h2⟩ := ixOf_at hq
        refine ⟨by simpa using h1, fun j hj => ?_⟩
        cases j with
        | zero => simpa using e
        | succ j => simpa using h2 j (Nat.lt_of_succ_lt_succ hj)
theorem ixOf_mem {c : α} : ∀ {l : List α}, c ∈ l → ∃ i, ixOf c l = some i
  | x :: l, h => by
    unfold ixOf
    by_cases e : x = c
    · exact ⟨0, by rw [if_pos e]⟩
    · rw [if_neg e]
      obtain ⟨i, hi⟩ := ixOf_mem ((List.mem_cons.mp h).resolve_left (Ne.symm e))
      exact ⟨i + 1, by rw [hi]; rfl⟩
theorem nodup_get {l : List α} (nd : l.Nodup) {i j : Nat} {c : α} (h : l[i]? = some c) (h2 : l[j]? = some c) : i = j := by
  obtain ⟨a1, a2⟩ := List.getElem?_eq_some_iff.mp h
  obtain ⟨b1, b2⟩ := List.getElem?_eq_some_iff.mp h2
  rcases Nat.lt_trichotomy i j with q | q | q
  · exact absurd (a2.trans b2.symm) (List.pairwise_iff_getElem.mp nd i j a1 b1 q)
  · exact q
  · exact absurd (b2.trans a2.symm) (List.pairwise_iff_getElem.mp nd j i b1 a1 q)
theorem ixOf_nodup {c : α} {l : List α} {i : Nat} (nd : l.Nodup) (h : l[i]? = some c) : ixOf c l = some i := by
  obtain ⟨j, hj⟩ := ixOf_mem (List.mem_of_getElem? h)
  rw [hj, nodup_get nd (ixOf_at hj).1 h]
/-! ### how many -/
theorem sub_len : ∀ {a b : List α}, a.Nodup → (∀ x ∈ a, x ∈ b) → a.length ≤ b.length
  | [], _, _, _ => Nat.zero_le _
  | x :: a, b, nd, h => by
    have hn := List.nodup_cons.mp nd
    have hb : x ∈ b := h x List.mem_cons_self
    have ih := sub_len (b := b.erase x) hn.2 fun y hy => (List.mem_erase_of_ne (fun e => hn.1 (by rw [← e]; exact hy))).mpr (h y (List.mem_cons_of_mem _ hy))
    rw [List.length_erase_of_mem hb] at ih
    have : 0 < b.length := List.length_pos_of_mem hb
    simp only [List.length_cons]
    omega
theorem nodup_of_len : ∀ {l a : List α}, a.Nodup → (∀ x ∈ a, x ∈ l) → l.length ≤ a.length → l.Nodup
  | [], _, _, _, _ => List.nodup_nil
  | x :: l, a, nd, h, hl => by
    by_cases hx : x ∈ l
    · have := sub_len nd fun y hy => by
        rcases List.mem_cons.mp (h y hy) with rfl | z
        · exact hx
        · exact z
      simp only [List.length_cons] at hl
      omega
    · refine List.nodup_cons.mpr ⟨hx, nodup_of_len (a := a.erase x) (nd.erase x) (fun y hy => ?_) ?_⟩
      · have hy' := List.mem_of_mem_erase hy
        rcases List.mem_cons.mp (h y hy') with rfl | z
        · exact absurd hy (List.Nodup.not_mem_erase nd)
        · exact z
      · have h1 : (a.erase x).length ≥ a.length - 1 := by rw [List.length_erase]; split <;> omega
        simp only [List.length_cons] at hl
        omega
theorem map_inj_of {β : Type} [DecidableEq β] {f : α → β} {l : List α} (nd : (l.map f).Nodup) {x y : α} (hx : x ∈ l) (hy : y ∈ l) (e : f x = f y) : x = y := by
  obtain ⟨i, hi⟩ := List.mem_iff_getElem?.mp hx
  obtain ⟨j, hj⟩ := List.mem_iff_getElem?.mp hy
  have h1 : (l.map f)[i]? = some (f x) := by simp [hi]
  have h2 : (l.map f)[j]? = some (f x) := by simp [hj, e]
  have := nodup_get nd h1 h2
  subst this
  rw [hi] at hj
  cases hj
  rfl
end

theorem distinct {α : Type} [DecidableEq α] : ∀ l : List α, ∃ L : List α, L.Nodup ∧ ∀ x, x ∈ L ↔ x ∈ l
  | [] => ⟨[], List.nodup_nil, fun x => Iff.rfl⟩
  | a :: l => by
    obtain ⟨L, nd, h⟩ := distinct l
    by_cases q : a ∈ L
    · refine ⟨L, nd, fun x => ?_⟩
      rw [List.mem_cons, ← h x]
      exact ⟨.inr, fun z => z.elim (fun e => e ▸ q) id⟩
    · refine ⟨a :: L, List.nodup_cons.mpr ⟨q, nd⟩, fun x => ?_⟩
      rw [List.mem_cons, List.mem_cons, h x]
/-! ### tables -/
def nx (st : List (List Nat)) (s i : Nat) : Nat := (st.getD s []).getD i 0
def rn (st : List (List Nat)) (s : Nat) (w : List Nat) : Nat := w.foldl (nx st) s
def same (st : List (List Nat)) (en : List Nat) (k a b : Nat) : Prop := ∀ w : List Nat, (∀ i ∈ w, i < k) → (rn st a w ∈ en ↔ rn st b w ∈ en)
/-- n rows of k goals each -/
structure Tab (st : List (List Nat)) (n k : Nat) : Prop where
  len : st.length = n
  row : ∀ s, s < n → ∃ r, st[s]? = some r ∧ r.length = k ∧ ∀ g ∈ r, g < n
theorem Tab.nx {st : List (List Nat)} {n k : Nat} (h : Tab st n k) {s i : Nat} (hs : s < n) (hi : i < k) : PM.nx st s i < n := by
  obtain ⟨r, e, hl, hg⟩ := h.row s hs
  unfold PM.nx
  have hi' : i < r.length := by omega
  simp only [List.getD_eq_getElem?_getD, e, Option.getD_some, List.getElem?_eq_getElem hi']
  exact hg _ (List.getElem_mem hi')
theorem Tab.rn {st : List (List Nat)} {n k : Nat} (h : Tab st n k) : ∀ {w : List Nat} {s : Nat}, s < n → (∀ i ∈ w, i < k) → PM.rn st s w < n
  | [], _, hs, _ => hs
  | i :: w, s, hs, hw => h.rn (w := w) (h.nx hs (hw i List.mem_cons_self)) fun j hj => hw j (List.mem_cons_of_mem _ hj)
theorem rn_cons (st : List (List Nat)) (s i : Nat) (w : List Nat) : rn st s (i :: w) = rn st (nx st s i) w := rfl
theorem rn_app (st : List (List Nat)) (s : Nat) (v w : List Nat) : rn st s (v ++ w) = rn st (rn st s v) w := by simp [rn]
theorem row_get {st : List (List Nat)} {s : Nat} {r : List Nat} (h : st[s]? = some r) (i : Nat) : r.getD i 0 = nx st s i := by
  unfold nx
  simp [List.getD_eq_getElem?_getD, h]

/-! ### parting -/
def lo (lots : List Nat) (s : Nat) : Nat := lots.getD s 0
/-- a mark: the lot and the goals' lots -/
def mark (st : List (List Nat)) (lots : List Nat) (s : Nat) : List Nat := lo lots s :: (st.getD s []).map (lo lots)
structure Coarse (st : List (List Nat)) (en : List Nat) (n k : Nat) (lots : List Nat) : Prop where
  len : lots.length = n
  sm : ∀ a b, a < n → b < n → same st en k a b → lo lots a = lo lots b
  ac : ∀ a b, a < n → b < n → lo lots a = lo lots b → (a ∈ en ↔ b ∈ en)
structure Lots (st : List (List Nat)) (en : List Nat) (n k : Nat) (lots : List Nat) : Prop where
  len : lots.length = n
  iff : ∀ a b, a < n → b < n → (lo lots a = lo lots b ↔ same st en k a b)
section
variable {st : List (List Nat)} {en : List Nat} {n k : Nat} {lots : List Nat}
theorem same_nx {a b i : Nat} (h : same st en k a b) (hi : i < k) : same st en k (nx st a i) (nx st b i) := fun w hw => by
  have := h (i :: w) fun j hj => by
    rcases List.mem_cons.mp hj with rfl | z
    · exact hi
    · exact hw j z
  simpa [rn_cons] using this
theorem mark_eq (T : Tab st n k) {a b : Nat} (ha : a < n) (hb : b < n) : mark st lots a = mark st lots b ↔ lo lots a = lo lots b ∧ ∀ i, i < k → lo lots (nx st a i) = lo lots (nx st b i) := by
  obtain ⟨r, e1, l1, _⟩ := T.row a ha
  obtain ⟨q, e2, l2, _⟩ := T.row b hb
  unfold mark
  simp only [List.getD_eq_getElem?_getD, e1, e2, Option.getD_some, List.cons.injEq]
  constructor
  · rintro ⟨h1, h2⟩
    refine ⟨h1, fun i hi => ?_⟩
    have := congrArg (fun l : List Nat => l[i]?) h2
    simp only [List.getElem?_map, List.getElem?_eq_getElem (show i < r.length by omega), List.getElem?_eq_getElem (show i < q.length by omega), Option.map_some, Option.some.injEq] at this
    rw [← row_get e1 i, ← row_get e2 i]
    simpa [List.getD_eq_getElem?_getD, List.getElem?_eq_getElem (show i < r.length by omega), List.getElem?_eq_getElem (show i < q.length by omega)] using this
  · rintro ⟨h1, h2⟩
    refine ⟨h1, List.ext_getElem (by simp [l1, l2]) fun i hi hj => ?_⟩
    simp only [List.length_map] at hi hj
    have := h2 i (by omega)
    rw [← row_get e1 i, ← row_get e2 i] at this
    simpa [List.getD_eq_getElem?_getD, List.getElem?_eq_getElem hi, List.getElem?_eq_getElem hj] using this
theorem lo_lt {s : Nat} (h : s < lots.length) : lots[s]? = some (lo lots s) := by
  simp [lo, List.getD_eq_getElem?_getD, List.getElem?_eq_getElem h]
/-- the first lots -/
theorem coarse0 : Coarse st en n k ((List.range n).map fun s => if s ∈ en then 1 else 0) := by
  have e : ∀ s, s < n → lo ((List.range n).map fun s => if s ∈ en then 1 else 0) s = if s ∈ en then 1 else 0 := fun s hs => by
    unfold lo
    simp [List.getD_eq_getElem?_getD, hs]
  refine ⟨by simp, fun a b ha hb h => ?_, fun a b ha hb h => ?_⟩
  · rw [e a ha, e b hb]
    have := h [] (by simp)
    simp only [rn, List.foldl_nil] at this
    by_cases q : a ∈ en
    · rw [if_pos q, if_pos (this.mp q)]
    · rw [if_neg q, if_neg fun z => q (this.mpr z)]
  · rw [e a ha, e b hb] at h
    by_cases q : a ∈ en <;> by_cases q' : b ∈ en <;> simp [q, q'] at h ⊢
/-- the next lots: the marks' places -/
theorem coarse_next (T : Tab st n k) (C : Coarse st en n k lots) {known : List (List Nat)} (nd : known.Nodup) (hm : ∀ x, x ∈ known ↔ ∃ s, s < n ∧ mark st lots s = x) {lots' : List Nat} (hl : lots'.length = n)
    (h : ∀ s, s < n → known[lo lots' s]? = some (mark st lots s)) : Coarse st en n k lots' := by
  refine ⟨hl, fun a b ha hb q => ?_, fun a b ha hb q => ?_⟩
  · have e : mark st lots a = mark st lots b := (mark_eq T ha hb).mpr ⟨C.sm a b ha hb q, fun i hi => C.sm _ _ (T.nx ha hi) (T.nx hb hi) (same_nx q hi)⟩
    exact nodup_get nd (h a ha) (by rw [e]; exact h b hb)
  · have e : mark st lots a = mark st lots b := by
      have h1 := h a ha
      rw [q, h b hb] at h1
      exact (Option.some.inj h1).symm
    exact C.ac a b ha hb ((mark_eq T ha hb).mp e).1
/-- as many marks as lots: done -/
theorem lots_done (T : Tab st n k) (C : Coarse st en n k lots) {known : List (List Nat)} {L : List Nat} (nd : known.Nodup) (hm : ∀ x, x ∈ known ↔ ∃ s, s < n ∧ mark st lots s = x) (nl : L.Nodup) (hL : ∀ x, x ∈ L ↔ ∃ s, s < n ∧ lo lots s = x)
    (he : known.length = L.length) : Lots st en n k lots := by
  have hd : (known.map fun x => x.headD 0).Nodup := by
    refine nodup_of_len nl (fun x hx => ?_) (by simp [he])
    obtain ⟨s, hs, e⟩ := (hL x).mp hx
    exact List.mem_map.mpr ⟨mark st lots s, (hm _).mpr ⟨s, hs, rfl⟩, by simpa [mark] using e⟩
  have stab : ∀ a b, a < n → b < n → lo lots a = lo lots b → ∀ i, i < k → lo lots (nx st a i) = lo lots (nx st b i) := fun a b ha hb e => by
    have := map_inj_of hd ((hm _).mpr ⟨a, ha, rfl⟩) ((hm _).mpr ⟨b, hb, rfl⟩) (by simpa [mark] using e)
    exact ((mark_eq T ha hb).mp this).2
  refine ⟨C.len, fun a b ha hb => ⟨fun e w => ?_, C.sm a b ha hb⟩⟩
  induction w generalizing a b with
  | nil => intro _; simpa [rn] using C.ac a b ha hb e
  | cons i w ih =>
    intro hw
    have hi := hw i List.mem_cons_self
    rw [rn_cons, rn_cons]
    exact ih _ _ (T.nx ha hi) (T.nx hb hi) (stab a b ha hb e i hi) fun j hj => hw j (List.mem_cons_of_mem _ hj)
/-- never fewer marks than lots -/
theorem marks_more {known : List (List Nat)} {L : List Nat} (hm : ∀ x, x ∈ known ↔ ∃ s, s < n ∧ mark st lots s = x) (nl : L.Nodup) (hL : ∀ x, x ∈ L ↔ ∃ s, s < n ∧ lo lots s = x) : L.length ≤ known.length := by
  have := sub_len (b := known.map fun x => x.headD 0) nl fun x hx => by
    obtain ⟨s, hs, e⟩ := (hL x).mp hx
    exact List.mem_map.mpr ⟨mark st lots s, (hm _).mpr ⟨s, hs, rfl⟩, by simpa [mark] using e⟩
  simpa using this
end
end PM

set_option linter.all false
set_option maxRecDepth 10000
/-! Plain facts of machines, part 2: the least machine. -/
namespace PM
/-- a goal shown, if its lot is new -/
def add (lots : List Nat) (sh : List Nat) (g : Nat) : List Nat := if lo lots g ∈ sh.map (lo lots) then sh else sh ++ [g]
def turn (st : List (List Nat)) (lots sh : List Nat) (p : Nat) : List Nat := (st.getD (sh.getD p 0) []).foldl (add lots) sh
def it (st : List (List Nat)) (lots : List Nat) (b : Nat) : Nat → List Nat
  | 0 => [b]
  | p + 1 => turn st lots (it st lots b p) p
/-- the machine that is told -/
def itemsOf (st : List (List Nat)) (lots sh : List Nat) : List (List Nat) := sh.map fun s => (st.getD s []).map fun g => (ixOf (lo lots g) (sh.map (lo lots))).getD 0
def endsOf (en sh : List Nat) : List Nat := (List.range sh.length).filter fun i => decide (sh.getD i 0 ∈ en)
structure Shown (n : Nat) (lots : List Nat) (b : Nat) (sh : List Nat) : Prop where
  lt : ∀ s ∈ sh, s < n
  nd : (sh.map (lo lots)).Nodup
  hd : sh[0]? = some b
section
variable {st : List (List Nat)} {en : List Nat} {n k b : Nat} {lots sh : List Nat}
theorem add_shown (h : Shown n lots b sh) {g : Nat} (hg : g < n) : Shown n lots b (add lots sh g) := by
  unfold add
  split
  · exact h
  · rename_i hn
    refine ⟨fun s hs => ?_, ?_, ?_⟩
    · rcases List.mem_append.mp hs with z | z
      · exact h.lt s z
      · obtain rfl := List.mem_singleton.mp z
        exact hg
    · rw [List.map_append]
      refine List.nodup_append.mpr ⟨h.nd, by simp, fun x hx y hy => ?_⟩
      rintro rfl
      simp at hy
      subst hy
      exact hn hx
    · have : 0 < sh.length := (List.getElem?_eq_some_iff.mp h.hd).1
      rw [List.getElem?_append_left this]
      exact h.hd
theorem add_pre (lots sh : List Nat) (g : Nat) : sh <+: add lots sh g := by
  unfold add
  split
  · exact List.prefix_refl _
  · exact List.prefix_append _ _
theorem add_has (lots sh : List Nat) (g : Nat) : lo lots g ∈ (add lots sh g).map (lo lots) := by
  unfold add
  split
  · assumption
  · simp
theorem fold_shown : ∀ (r : List Nat) {sh : List Nat}, Shown n lots b sh → (∀ g ∈ r, g < n) → Shown n lots b (r.foldl (add lots) sh)
  | [], _, h, _ => h
  | g :: r, _, h, hr => fold_shown r (add_shown h (hr g List.mem_cons_self)) fun x hx => hr x (List.mem_cons_of_mem _ hx)
theorem fold_pre (lots : List Nat) : ∀ (r sh : List Nat), sh <+: r.foldl (add lots) sh
  | [], sh => List.prefix_refl _
  | g :: r, sh => (add_pre lots sh g).trans (fold_pre lots r _)
theorem fold_has (lots : List Nat) : ∀ (r sh : List Nat), ∀ g ∈ r, lo lots g ∈ (r.foldl (add lots) sh).map (lo lots)
  | x :: r, sh, g, hg => by
    rcases List.mem_cons.mp hg with rfl | z
    · obtain ⟨t, ht⟩ := fold_pre lots r (add lots sh g)
      show lo lots g ∈ (r.foldl (add lots) (add lots sh g)).map (lo lots)
      rw [← ht, List.map_append]
      exact List.mem_append_left _ (add_has lots sh g)
    · exact fold_has lots r _ g z
theorem nodup_map {f : Nat → Nat} {l : List Nat} (h : (l.map f).Nodup) : l.Nodup := by
  refine List.pairwise_map.mp h |>.imp ?_
  rintro a c q rfl
  exact q rfl
theorem shown_len (h : Shown n lots b sh) : sh.length ≤ n := by
  have nd : sh.Nodup := nodup_map h.nd
  have := sub_len (b := List.range n) nd fun s hs => List.mem_range.mpr (h.lt s hs)
  simpa using this
theorem it_shown (T : Tab st n k) (hb : b < n) : ∀ p, Shown n lots b (it st lots b p)
  | 0 => ⟨fun s hs => by obtain rfl := List.mem_singleton.mp hs; exact hb, by simp [it], rfl⟩
  | p + 1 => by
    have ih := it_shown T hb p
    unfold it turn
    refine fold_shown _ ih fun g hg => ?_
    by_cases hp : p < (it st lots b p).length
    · have hm : (it st lots b p).getD p 0 ∈ it st lots b p := by simp [List.getD_eq_getElem?_getD, List.getElem?_eq_getElem hp]
      obtain ⟨r, e, _, hr⟩ := T.row _ (ih.lt _ hm)
      simp only [List.getD_eq_getElem?_getD] at e hg
      rw [e] at hg
      exact hr g hg
    · have hz : (it st lots b p).getD p 0 = 0 := by simp [List.getD_eq_getElem?_getD, List.getElem?_eq_none (Nat.le_of_not_lt hp)]
      rw [hz] at hg
      obtain ⟨r, e, _, hr⟩ := T.row 0 (by omega)
      simp only [List.getD_eq_getElem?_getD] at hg
      rw [e] at hg
      exact hr g hg
theorem it_pre (p : Nat) : it st lots b p <+: it st lots b (p + 1) := fold_pre _ _ _
theorem it_le {q : Nat} : ∀ {p : Nat}, q ≤ p → it st lots b q <+: it st lots b p
  | 0, h => by obtain rfl : q = 0 := by omega
               exact List.prefix_refl _
  | p + 1, h => by
    by_cases e : q = p + 1
    · subst e
      exact List.prefix_refl _
    · exact (it_le (p := p) (by omega)).trans (it_pre p)
theorem pre_getD {l m : List Nat} (h : l <+: m) {i : Nat} (hi : i < l.length) : m.getD i 0 = l.getD i 0 := by
  obtain ⟨t, rfl⟩ := h
  simp only [List.getD_eq_getElem?_getD]
  rw [List.getElem?_append_left hi]
def Live (st : List (List Nat)) (lots : List Nat) (b p : Nat) : Prop := ∀ q, q < p → q < (it st lots b q).length
/-- what has had its turn leads to what is shown -/
theorem it_done : ∀ {p : Nat}, Live st lots b p → ∀ q, q < p → ∀ g ∈ st.getD ((it st lots b p).getD q 0) [], lo lots g ∈ (it st lots b p).map (lo lots)
  | p + 1, L, q, hq, g, hg => by
    have hl := L q hq
    by_cases e : q = p
    · subst e
      rw [pre_getD (it_pre q) hl] at hg
      exact fold_has lots _ _ g hg
    · have hp := (it_le (st := st) (lots := lots) (b := b) (q := q) (p := p) (by omega))
      have hlt : q < (it st lots b p).length := Nat.lt_of_lt_of_le hl hp.length_le
      rw [pre_getD (it_pre p) hlt] at hg
      have := it_done (p := p) (fun x hx => L x (by omega)) q (by omega) g hg
      obtain ⟨t, ht⟩ := it_pre (st := st) (lots := lots) (b := b) p
      rw [← ht, List.map_append]
      exact List.mem_append_left _ this
/-- the whole of it: as many turns as are shown -/
structure Whole (st : List (List Nat)) (n : Nat) (lots : List Nat) (b : Nat) (sh : List Nat) : Prop where
  ok : Shown n lots b sh
  cl : ∀ s ∈ sh, ∀ g ∈ st.getD s [], lo lots g ∈ sh.map (lo lots)
theorem it_whole (T : Tab st n k) (hb : b < n) {p : Nat} (L : Live st lots b p) (hp : (it st lots b p).length ≤ p) : Whole st n lots b (it st lots b p) := by
  refine ⟨it_shown T hb p, fun s hs g hg => ?_⟩
  obtain ⟨q, hq⟩ := List.mem_iff_getElem?.mp hs
  have hl := (List.getElem?_eq_some_iff.mp hq).1
  refine it_done L q (by omega) g ?_
  simpa [List.getD_eq_getElem?_getD, hq] using hg
/-! ### the machine that is told takes the same -/
theorem item_at (T : Tab st n k) (W : Whole st n lots b sh) {i s : Nat} (h : sh[i]? = some s) : ∃ r, (itemsOf st lots sh)[i]? = some r ∧ r.length = k ∧ ∀ c, c < k → ∃ j t, r[c]? = some j ∧ sh[j]? = some t ∧ lo lots t = lo lots (nx st s c) := by
  obtain ⟨q, e, hl, hg⟩ := T.row s (W.ok.lt s (List.mem_of_getElem? h))
  refine ⟨q.map fun g => (ixOf (lo lots g) (sh.map (lo lots))).getD 0, by simp [itemsOf, h, List.getD_eq_getElem?_getD, e], by simp [hl], fun c hc => ?_⟩
  have hc' : c < q.length := by omega
  have hm : q[c] ∈ st.getD s [] := by simp [List.getD_eq_getElem?_getD, e]
  obtain ⟨j, hj⟩ := ixOf_mem (W.cl s (List.mem_of_getElem? h) _ hm)
  have h1 := (ixOf_at hj).1
  rw [List.getElem?_map] at h1
  cases ht : sh[j]? with
  | none => rw [ht] at h1; cases h1
  | some t =>
    rw [ht] at h1
    have h2 : lo lots t = lo lots q[c] := Option.some.inj h1
    refine ⟨j, t, by simp [List.getElem?_eq_getElem hc', hj], ht, ?_⟩
    rw [h2, ← row_get e c]
    simp [List.getD_eq_getElem?_getD, List.getElem?_eq_getElem hc']
theorem items_tab (T : Tab st n k) (W : Whole st n lots b sh) : Tab (itemsOf st lots sh) sh.length k := by
  refine ⟨by simp [itemsOf], fun i hi => ?_⟩
  obtain ⟨r, e, hl, hr⟩ := item_at T W (List.getElem?_eq_getElem hi)
  refine ⟨r, e, hl, fun g hg => ?_⟩
  obtain ⟨c, hc⟩ := List.mem_iff_getElem?.mp hg
  have hc2 := (List.getElem?_eq_some_iff.mp hc).1
  obtain ⟨j, t, e1, e2, _⟩ := hr c (by omega)
  rw [hc] at e1
  cases e1
  exact (List.getElem?_eq_some_iff.mp e2).1
theorem lots_nx (T : Tab st n k) (O : Lots st en n k lots) {a c i : Nat} (ha : a < n) (hc : c < n) (h : lo lots a = lo lots c) (hi : i < k) : lo lots (nx st a i) = lo lots (nx st c i) :=
  (O.iff _ _ (T.nx ha hi) (T.nx hc hi)).mpr (same_nx ((O.iff a c ha hc).mp h) hi)
theorem least_goes (T : Tab st n k) (O : Lots st en n k lots) (W : Whole st n lots b sh) : ∀ {w : List Nat} {i s t : Nat}, sh[i]? = some t → s < n → lo lots t = lo lots s → (∀ c ∈ w, c < k) → ∃ t', sh[rn (itemsOf st lots sh) i w]? = some t' ∧ lo lots t' = lo lots (rn st s w)
  | [], i, s, t, h, _, e, _ => ⟨t, h, e⟩
  | c :: w, i, s, t, h, hs, e, hw => by
    have hc := hw c List.mem_cons_self
    have ht := W.ok.lt t (List.mem_of_getElem? h)
    obtain ⟨r, e1, _, hr⟩ := item_at T W h
    obtain ⟨j, t2, f1, f2, f3⟩ := hr c hc
    have hj : nx (itemsOf st lots sh) i c = j := by
      rw [← row_get e1 c]
      simp [List.getD_eq_getElem?_getD, f1]
    rw [rn_cons, rn_cons, hj]
    exact least_goes T O W f2 (T.nx hs hc) (f3.trans (lots_nx T O ht hs e hc)) fun d hd => hw d (List.mem_cons_of_mem _ hd)
theorem mem_ends {i : Nat} : i ∈ endsOf en sh ↔ i < sh.length ∧ sh.getD i 0 ∈ en := by simp [endsOf]
theorem least_takes (T : Tab st n k) (O : Lots st en n k lots) (W : Whole st n lots b sh) (hb : b < n) {w : List Nat} (hw : ∀ c ∈ w, c < k) : rn (itemsOf st lots sh) 0 w ∈ endsOf en sh ↔ rn st b w ∈ en := by
  obtain ⟨t, h1, h2⟩ := least_goes T O W W.ok.hd hb rfl hw
  have hl := (List.getElem?_eq_some_iff.mp h1).1
  have hrn := T.rn hb hw
  have ht := W.ok.lt t (List.mem_of_getElem? h1)
  rw [mem_ends]
  have e : sh.getD (rn (itemsOf st lots sh) 0 w) 0 = t := by simp [List.getD_eq_getElem?_getD, h1]
  rw [e]
  have := (O.iff t _ ht hrn).mp h2 [] (by simp)
  simp only [rn, List.foldl_nil] at this
  exact ⟨fun z => this.mp z.2, fun z => ⟨hl, this.mpr z⟩⟩
end
end PM

set_option linter.all false
set_option maxRecDepth 10000
/-! Plain facts of machines, part 3: how much of a word stands at a row's end. -/
namespace PM
def kbGo (w row : List Nat) : Nat → Nat
  | 0 => 0
  | m + 1 => if row.drop (row.length - (m + 1)) = w.take (m + 1) then m + 1 else kbGo w row m
def kb (w row : List Nat) : Nat := kbGo w row (min w.length row.length)
section
variable {w row : List Nat}
theorem suf_iff {m : Nat} (h : m ≤ w.length) (h2 : m ≤ row.length) : row.drop (row.length - m) = w.take m ↔ w.take m <:+ row := by
  rw [List.suffix_iff_eq_drop, List.length_take, Nat.min_eq_left h]
  exact eq_comm
theorem kbGo_le (m : Nat) : kbGo w row m ≤ m := by
  induction m with
  | zero => exact Nat.le_refl _
  | succ m ih =>
    unfold kbGo
    split
    · exact Nat.le_refl _
    · omega
theorem kbGo_suf : ∀ m, m ≤ w.length → m ≤ row.length → w.take (kbGo w row m) <:+ row
  | 0, _, _ => by simp [kbGo]
  | m + 1, h, h2 => by
    unfold kbGo
    split
    · rename_i e
      exact (suf_iff h h2).mp e
    · exact kbGo_suf m (by omega) (by omega)
theorem kbGo_most : ∀ m, m ≤ w.length → m ≤ row.length → ∀ j, j ≤ m → w.take j <:+ row → j ≤ kbGo w row m
  | 0, _, _, j, hj, _ => by omega
  | m + 1, h, h2, j, hj, hs => by
    unfold kbGo
    split
    · exact hj
    · rename_i e
      by_cases q : j = m + 1
      · subst q
        exact absurd ((suf_iff h h2).mpr hs) e
      · exact kbGo_most m (by omega) (by omega) j (by omega) hs
theorem kb_suf : w.take (kb w row) <:+ row := kbGo_suf _ (Nat.min_le_left _ _) (Nat.min_le_right _ _)
theorem kb_le : kb w row ≤ w.length := Nat.le_trans (kbGo_le _) (Nat.min_le_left _ _)
theorem kb_row : kb w row ≤ row.length := Nat.le_trans (kbGo_le _) (Nat.min_le_right _ _)
theorem kb_most {j : Nat} (h : j ≤ w.length) (hs : w.take j <:+ row) : j ≤ kb w row := by
  have := hs.length_le
  rw [List.length_take] at this
  exact kbGo_most _ (Nat.min_le_left _ _) (Nat.min_le_right _ _) j (by omega) hs
/-- the longest one by the law's way: the row is cut ahead till a beginning is left -/
theorem kb_uniq {j : Nat} (h : j ≤ w.length) (hs : w.take j <:+ row) (hm : ∀ i, i ≤ w.length → w.take i <:+ row → i ≤ j) : j = kb w row := Nat.le_antisymm (kb_most h hs) (hm _ kb_le kb_suf)
theorem kb_full : kb w row = w.length ↔ w <:+ row := by
  constructor
  · intro h
    have := kb_suf (w := w) (row := row)
    rw [h, List.take_length] at this
    exact this
  · intro h
    exact Nat.le_antisymm kb_le (kb_most (Nat.le_refl _) (by rw [List.take_length]; exact h))
/-- one sign more -/
theorem kb_step {c : Nat} (hlt : kb w row < w.length) : kb w (w.take (kb w row) ++ [c]) = kb w (row ++ [c]) := by
  have hs := kb_suf (w := w) (row := row)
  have hs2 : w.take (kb w row) ++ [c] <:+ row ++ [c] := by
    obtain ⟨t, ht⟩ := hs
    exact ⟨t, by rw [← List.append_assoc, ht]⟩
  refine Nat.le_antisymm (kb_most kb_le (kb_suf.trans hs2)) (kb_most kb_le ?_)
  have hb := kb_suf (w := w) (row := row ++ [c])
  have hl := kb_le (w := w) (row := row ++ [c])
  revert hb hl
  generalize kb w (row ++ [c]) = m
  intro hb hl
  cases m with
  | zero => simp
  | succ j =>
    have hj : j < w.length := hl
    have e1 : w.take (j + 1) = w.take j ++ [w[j]] := by rw [List.take_add_one, List.getElem?_eq_getElem hj]; rfl
    rw [e1] at hb ⊢
    obtain ⟨t, ht⟩ := hb
    rw [← List.append_assoc] at ht
    have h2 := List.append_inj' ht rfl
    have h3 : w[j] = c := by simpa using h2.2
    have h4 : w.take j <:+ row := ⟨t, h2.1⟩
    have h5 : j ≤ kb w row := kb_most (by omega) h4
    have h6 : w.take j <:+ w.take (kb w row) := List.suffix_of_suffix_length_le h4 hs (by simp only [List.length_take]; omega)
    obtain ⟨u, hu⟩ := h6
    exact ⟨u, by rw [← List.append_assoc, hu, h3]⟩
end
/-! ### the word's machine -/
def kst (sgl w : List Nat) : List (List Nat) := (List.range w.length).map (fun m => sgl.map fun c => kb w (w.take m ++ [c])) ++ [List.replicate sgl.length w.length]
structure Word (sgl w : List Nat) : Prop where
  nd : sgl.Nodup
  sub : ∀ c ∈ w, c ∈ sgl
  ne : w ≠ []
def ixs (sgl row : List Nat) : List Nat := row.map fun c => (ixOf c sgl).getD 0
section
variable {sgl w row : List Nat}
theorem kst_row {s : Nat} (h : s < w.length) : (kst sgl w)[s]? = some (sgl.map fun c => kb w (w.take s ++ [c])) := by
  unfold kst
  rw [List.getElem?_append_left (by simpa using h)]
  simp [h]
theorem kst_last : (kst sgl w)[w.length]? = some (List.replicate sgl.length w.length) := by
  unfold kst
  rw [List.getElem?_append_right (by simp)]
  simp
theorem kst_tab (sgl w : List Nat) : Tab (kst sgl w) (w.length + 1) sgl.length := by
  refine ⟨by simp [kst], fun s hs => ?_⟩
  by_cases h : s < w.length
  · refine ⟨_, kst_row h, by simp, fun g hg => ?_⟩
    obtain ⟨c, _, rfl⟩ := List.mem_map.mp hg
    have := kb_le (w := w) (row := w.take s ++ [c])
    omega
  · have e : s = w.length := by omega
    subst e
    refine ⟨_, kst_last, by simp, fun g hg => ?_⟩
    rw [List.eq_of_mem_replicate hg]
    exact Nat.lt_succ_self _
theorem kst_nx {s i c : Nat} (h : s < w.length) (hc : sgl[i]? = some c) : nx (kst sgl w) s i = kb w (w.take s ++ [c]) := by
  rw [← row_get (kst_row h) i]
  simp [List.getD_eq_getElem?_getD, hc]
theorem kst_stay {i : Nat} (h : i < sgl.length) : nx (kst sgl w) w.length i = w.length := by
  rw [← row_get kst_last i]
  simp [List.getD_eq_getElem?_getD, h]
theorem ixs_lt (hr : ∀ c ∈ row, c ∈ sgl) : ∀ i ∈ ixs sgl row, i < sgl.length := fun i hi => by
  obtain ⟨c, hc, rfl⟩ := List.mem_map.mp hi
  obtain ⟨j, hj⟩ := ixOf_mem (hr c hc)
  rw [hj]
  exact (List.getElem?_eq_some_iff.mp (ixOf_at hj).1).1
/-- the stand behind a row -/
def stand (w row : List Nat) : Nat := open Classical in if w <:+: row then w.length else kb w row
theorem kb_lt (h : ¬ w <:+: row) : kb w row < w.length := by
  rcases Nat.lt_or_eq_of_le (kb_le (w := w) (row := row)) with z | z
  · exact z
  · exact absurd (kb_full.mp z).isInfix h
theorem stand_step {c i : Nat} (hc : sgl[i]? = some c) : nx (kst sgl w) (stand w row) i = stand w (row ++ [c]) := by
  have hi : i < sgl.length := (List.getElem?_eq_some_iff.mp hc).1
  unfold stand
  by_cases h : w <:+: row
  · rw [if_pos h, if_pos (h.trans (List.prefix_append _ _).isInfix)]
    exact kst_stay hi
  · rw [if_neg h, kst_nx (kb_lt h) hc, kb_step (kb_lt h)]
    by_cases h2 : w <:+: row ++ [c]
    · rw [if_pos h2]
      rcases List.infix_concat_iff.mp h2 with z | z
      · exact kb_full.mpr z
      · exact absurd z h
    · rw [if_neg h2]
theorem stand_go : ∀ (rest row : List Nat), (∀ c ∈ rest, c ∈ sgl) → rn (kst sgl w) (stand w row) (ixs sgl rest) = stand w (row ++ rest)
  | [], row, _ => by simp [ixs, rn]
  | c :: rest, row, h => by
    obtain ⟨i, hi⟩ := ixOf_mem (h c List.mem_cons_self)
    show rn _ (nx _ _ ((ixOf c sgl).getD 0)) (ixs sgl rest) = _
    rw [hi, Option.getD_some, stand_step (ixOf_at hi).1, stand_go rest _ fun d hd => h d (List.mem_cons_of_mem _ hd)]
    simp
theorem stand_nil (h : w ≠ []) : stand w [] = 0 := by
  unfold stand
  rw [if_neg fun z => h (List.infix_nil.mp z)]
  have := kb_row (w := w) (row := [])
  simpa using this
/-- it takes the rows in which the word stands -/
theorem word_takes (W : Word sgl w) (hr : ∀ c ∈ row, c ∈ sgl) : rn (kst sgl w) 0 (ixs sgl row) ∈ [w.length] ↔ w <:+: row := by
  have := stand_go (sgl := sgl) (w := w) row [] hr
  rw [stand_nil W.ne, List.nil_append] at this
  rw [this, List.mem_singleton]
  unfold stand
  by_cases h : w <:+: row
  · rw [if_pos h]
    exact ⟨fun _ => h, fun _ => rfl⟩
  · rw [if_neg h]
    have := kb_lt h
    exact ⟨fun z => by omega, fun z => absurd z h⟩
theorem nx_le {s i : Nat} (hs : s ≤ w.length) (hi : i < sgl.length) : nx (kst sgl w) s i ≤ s + 1 := by
  by_cases h : s < w.length
  · rw [kst_nx h (List.getElem?_eq_getElem hi)]
    have := kb_row (w := w) (row := w.take s ++ [sgl[i]])
    rw [List.length_append, List.length_take, List.length_singleton] at this
    omega
  · have : s = w.length := by omega
    subst this
    rw [kst_stay hi]
    omega
theorem nx_up {s i : Nat} (hs : s < w.length) (hi : sgl[i]? = some w[s]) : nx (kst sgl w) s i = s + 1 := by
  rw [kst_nx hs hi]
  have e1 : w.take s ++ [w[s]] = w.take (s + 1) := by rw [List.take_add_one, List.getElem?_eq_getElem hs]; rfl
  rw [e1]
  refine Nat.le_antisymm ?_ (kb_most hs (List.suffix_refl _))
  have := kb_row (w := w) (row := w.take (s + 1))
  rw [List.length_take] at this
  omega
theorem rn_le : ∀ (v : List Nat) {s : Nat}, s ≤ w.length → (∀ i ∈ v, i < sgl.length) → rn (kst sgl w) s v ≤ s + v.length
  | [], s, _, _ => Nat.le_refl _
  | i :: v, s, hs, h => by
    have h1 := nx_le (w := w) hs (h i List.mem_cons_self)
    have h2 := (kst_tab sgl w).nx (s := s) (by omega) (h i List.mem_cons_self)
    have := rn_le v (s := nx (kst sgl w) s i) (by omega) fun j hj => h j (List.mem_cons_of_mem _ hj)
    rw [rn_cons]
    simp only [List.length_cons]
    omega
theorem rn_up (W : Word sgl w) : ∀ (d s : Nat), s + d = w.length → rn (kst sgl w) s (ixs sgl (w.drop s)) = w.length
  | 0, s, h => by
    have : s = w.length := by omega
    subst this
    simp [ixs, rn]
  | d + 1, s, h => by
    have hs : s < w.length := by omega
    rw [List.drop_eq_getElem_cons hs]
    obtain ⟨i, hi⟩ := ixOf_mem (W.sub _ (List.getElem_mem hs))
    show rn _ (nx _ _ ((ixOf w[s] sgl).getD 0)) (ixs sgl (w.drop (s + 1))) = _
    rw [hi, Option.getD_some, nx_up hs (ixOf_at hi).1]
    exact rn_up W d (s + 1) (by omega)
theorem word_apart (W : Word sgl w) {a b : Nat} (hab : a < b) (hb : b ≤ w.length) : ¬ same (kst sgl w) [w.length] sgl.length a b := fun h => by
  have hv := ixs_lt (sgl := sgl) (row := w.drop b) fun c hc => W.sub c (List.mem_of_mem_drop hc)
  have h1 := (h _ hv).mpr (by rw [rn_up W (w.length - b) b (by omega)]; simp)
  have h2 := rn_le (w := w) (ixs sgl (w.drop b)) (s := a) (by omega) hv
  rw [List.mem_singleton] at h1
  have hl : (ixs sgl (w.drop b)).length = w.length - b := by simp [ixs]
  rw [hl] at h2
  omega
variable {lots : List Nat}
theorem word_inj (W : Word sgl w) (O : Lots (kst sgl w) [w.length] (w.length + 1) sgl.length lots) {a b : Nat} (ha : a ≤ w.length) (hb : b ≤ w.length) (e : lo lots a = lo lots b) : a = b := by
  have s := (O.iff a b (by omega) (by omega)).mp e
  rcases Nat.lt_trichotomy a b with q | q | q
  · exact absurd s (word_apart W q hb)
  · exact q
  · exact absurd (fun v hv => (s v hv).symm) (word_apart W q ha)
theorem add_in (W : Word sgl w) (O : Lots (kst sgl w) [w.length] (w.length + 1) sgl.length lots) {m g : Nat} (hg : g < m) (hm : m ≤ w.length + 1) : add lots (List.range m) g = List.range m := by
  unfold add
  rw [if_pos (List.mem_map.mpr ⟨g, List.mem_range.mpr hg, rfl⟩)]
theorem add_new (W : Word sgl w) (O : Lots (kst sgl w) [w.length] (w.length + 1) sgl.length lots) {m : Nat} (hm : m ≤ w.length) : add lots (List.range m) m = List.range (m + 1) := by
  unfold add
  rw [if_neg, List.range_succ]
  intro h
  obtain ⟨a, ha, e⟩ := List.mem_map.mp h
  have ha := List.mem_range.mp ha
  have := word_inj W O (by omega) hm e
  omega
theorem fold_in (W : Word sgl w) (O : Lots (kst sgl w) [w.length] (w.length + 1) sgl.length lots) {m : Nat} (hm : m ≤ w.length + 1) : ∀ {r : List Nat}, (∀ g ∈ r, g < m) → r.foldl (add lots) (List.range m) = List.range m
  | [], _ => rfl
  | g :: r, h => by
    rw [List.foldl_cons, add_in W O (h g List.mem_cons_self) hm]
    exact fold_in W O hm fun x hx => h x (List.mem_cons_of_mem _ hx)
theorem fold_new (W : Word sgl w) (O : Lots (kst sgl w) [w.length] (w.length + 1) sgl.length lots) {m : Nat} (hm : m ≤ w.length) : ∀ {r : List Nat}, (∀ g ∈ r, g ≤ m) → m ∈ r → r.foldl (add lots) (List.range m) = List.range (m + 1)
  | g :: r, h, hr => by
    rw [List.foldl_cons]
    by_cases e : g = m
    · subst e
      rw [add_new W O hm]
      exact fold_in W O (by omega) fun x hx => Nat.lt_succ_of_le (h x (List.mem_cons_of_mem _ hx))
    · have := h g List.mem_cons_self
      rw [add_in W O (by omega) (by omega)]
      exact fold_new W O hm (fun x hx => h x (List.mem_cons_of_mem _ hx)) ((List.mem_cons.mp hr).resolve_left (Ne.symm e))
theorem word_it (W : Word sgl w) (O : Lots (kst sgl w) [w.length] (w.length + 1) sgl.length lots) : ∀ p, p ≤ w.length → it (kst sgl w) lots 0 p = List.range (p + 1)
  | 0, _ => rfl
  | p + 1, h => by
    have ih := word_it W O p (by omega)
    have hp : p < w.length := by omega
    unfold it turn
    rw [ih]
    have e : (List.range (p + 1)).getD p 0 = p := by simp [List.getD_eq_getElem?_getD]
    rw [e]
    simp only [List.getD_eq_getElem?_getD, kst_row hp, Option.getD_some]
    refine fold_new W O (by omega) (fun g hg => ?_) ?_
    · obtain ⟨c, hc, rfl⟩ := List.mem_map.mp hg
      have := kb_row (w := w) (row := w.take p ++ [c])
      rw [List.length_append, List.length_take, List.length_singleton] at this
      omega
    · obtain ⟨i, hi⟩ := ixOf_mem (W.sub _ (List.getElem_mem hp))
      refine List.mem_map.mpr ⟨w[p], W.sub _ (List.getElem_mem hp), ?_⟩
      rw [← kst_nx hp (ixOf_at hi).1]
      exact nx_up hp (ixOf_at hi).1
theorem word_it1 (W : Word sgl w) (O : Lots (kst sgl w) [w.length] (w.length + 1) sgl.length lots) : it (kst sgl w) lots 0 (w.length + 1) = List.range (w.length + 1) := by
  unfold it turn
  rw [word_it W O _ (Nat.le_refl _)]
  have e : (List.range (w.length + 1)).getD w.length 0 = w.length := by simp [List.getD_eq_getElem?_getD]
  rw [e]
  simp only [List.getD_eq_getElem?_getD, kst_last, Option.getD_some]
  refine fold_in W O (Nat.le_refl _) fun g hg => ?_
  rw [List.eq_of_mem_replicate hg]
  exact Nat.lt_succ_self _
/-- the word's machine is its own least one -/
theorem word_least (W : Word sgl w) (O : Lots (kst sgl w) [w.length] (w.length + 1) sgl.length lots) {p : Nat} (L : Live (kst sgl w) lots 0 p) (hp : (it (kst sgl w) lots 0 p).length ≤ p) :
    itemsOf (kst sgl w) lots (it (kst sgl w) lots 0 p) = kst sgl w ∧ endsOf [w.length] (it (kst sgl w) lots 0 p) = [w.length] := by
  have e : p = w.length + 1 := by
    rcases Nat.lt_trichotomy p (w.length + 1) with q | q | q
    · rw [word_it W O p (by omega), List.length_range] at hp
      omega
    · exact q
    · have := L _ q
      rw [word_it1 W O, List.length_range] at this
      omega
  subst e
  rw [word_it1 W O]
  have T := kst_tab sgl w
  have nd : ((List.range (w.length + 1)).map (lo lots)).Nodup := by
    have := (it_shown T (lots := lots) (b := 0) (by omega) (w.length + 1)).nd
    rwa [word_it1 W O] at this
  refine ⟨List.ext_getElem? fun s => ?_, ?_⟩
  · unfold itemsOf
    by_cases hs : s < w.length + 1
    · obtain ⟨r, e, _, hr⟩ := T.row s hs
      rw [List.getElem?_map, List.getElem?_range hs, e, Option.map_some]
      simp only [List.getD_eq_getElem?_getD, e, Option.getD_some, Option.some.injEq]
      conv => rhs; rw [← List.map_id r]
      refine List.map_congr_left fun g hg => ?_
      rw [ixOf_nodup (i := g) nd (by simp [hr g hg])]
      rfl
    · rw [List.getElem?_eq_none (by simp; omega), List.getElem?_eq_none (by rw [T.len]; omega)]
  · unfold endsOf
    rw [List.length_range, List.range_succ, List.filter_append]
    have h1 : (List.range w.length).filter (fun i => decide ((List.range w.length ++ [w.length]).getD i 0 ∈ [w.length])) = [] := by
      refine List.filter_eq_nil_iff.mpr fun i hi => ?_
      have hi := List.mem_range.mp hi
      simp [List.getD_eq_getElem?_getD, List.getElem?_append_left, hi]
      omega
    rw [h1]
    simp [List.getD_eq_getElem?_getD]
end
end PM

set_option linter.all false
set_option maxRecDepth 10000
/-! Plain facts of machines, part 4: two machines at once. -/
namespace PM
structure Stab (st : List (List Nat)) (en : List Nat) (n k : Nat) (lots : List Nat) : Prop where
  nx : ∀ a b, a < n → b < n → lo lots a = lo lots b → ∀ i, i < k → lo lots (nx st a i) = lo lots (nx st b i)
  en : ∀ a b, a < n → b < n → lo lots a = lo lots b → (a ∈ en ↔ b ∈ en)
theorem lo_range {n s : Nat} (h : s < n) : lo (List.range n) s = s := by simp [lo, List.getD_eq_getElem?_getD, h]
theorem map_lo_range {n : Nat} {sh : List Nat} (h : ∀ s ∈ sh, s < n) : sh.map (lo (List.range n)) = sh := by
  conv => rhs; rw [← List.map_id sh]
  exact List.map_congr_left fun g hg => lo_range (h g hg)
section
variable {st : List (List Nat)} {en : List Nat} {n k b : Nat} {lots sh : List Nat}
theorem Lots.stab (T : Tab st n k) (O : Lots st en n k lots) : Stab st en n k lots := by
  refine ⟨fun a b ha hb h i hi => lots_nx T O ha hb h hi, fun a b ha hb h => ?_⟩
  have := (O.iff a b ha hb).mp h [] (by simp)
  simpa [rn] using this
theorem stab_range : Stab st en n k (List.range n) := by
  refine ⟨fun a b ha hb h i _ => ?_, fun a b ha hb h => ?_⟩
  · rw [lo_range ha, lo_range hb] at h
    rw [h]
  · rw [lo_range ha, lo_range hb] at h
    rw [h]
theorem stab_goes (T : Tab st n k) (O : Stab st en n k lots) (W : Whole st n lots b sh) : ∀ {w : List Nat} {i s t : Nat}, sh[i]? = some t → s < n → lo lots t = lo lots s → (∀ c ∈ w, c < k) → ∃ t', sh[rn (itemsOf st lots sh) i w]? = some t' ∧ lo lots t' = lo lots (rn st s w)
  | [], i, s, t, h, _, e, _ => ⟨t, h, e⟩
  | c :: w, i, s, t, h, hs, e, hw => by
    have hc := hw c List.mem_cons_self
    have ht := W.ok.lt t (List.mem_of_getElem? h)
    obtain ⟨r, e1, _, hr⟩ := item_at T W h
    obtain ⟨j, t2, f1, f2, f3⟩ := hr c hc
    have hj : PM.nx (itemsOf st lots sh) i c = j := by
      rw [← row_get e1 c]
      simp [List.getD_eq_getElem?_getD, f1]
    rw [rn_cons, rn_cons, hj]
    exact stab_goes T O W f2 (T.nx hs hc) (f3.trans (O.nx _ _ ht hs e _ hc)) fun d hd => hw d (List.mem_cons_of_mem _ hd)
theorem stab_takes (T : Tab st n k) (O : Stab st en n k lots) (W : Whole st n lots b sh) {w : List Nat} {i s : Nat} (hi : sh[i]? = some s) (hw : ∀ c ∈ w, c < k) : rn (itemsOf st lots sh) i w ∈ endsOf en sh ↔ rn st s w ∈ en := by
  have hs := W.ok.lt s (List.mem_of_getElem? hi)
  obtain ⟨t, h1, h2⟩ := stab_goes T O W hi hs rfl hw
  have hl := (List.getElem?_eq_some_iff.mp h1).1
  have hrn := T.rn hs hw
  have ht := W.ok.lt t (List.mem_of_getElem? h1)
  rw [mem_ends]
  have e : sh.getD (rn (itemsOf st lots sh) i w) 0 = t := by simp [List.getD_eq_getElem?_getD, h1]
  rw [e]
  have := O.en t _ ht hrn h2
  exact ⟨fun z => this.mp z.2, fun z => ⟨hl, this.mpr z⟩⟩
/-- a walk without parting, then the least one of it -/
theorem two_steps (T : Tab st n k) (hb : b < n) (W : Whole st n (List.range n) b sh) {lots2 sh2 : List Nat} (O : Lots (itemsOf st (List.range n) sh) (endsOf en sh) sh.length k lots2) (W2 : Whole (itemsOf st (List.range n) sh) sh.length lots2 0 sh2) :
    (∀ w : List Nat, (∀ c ∈ w, c < k) → (rn (itemsOf (itemsOf st (List.range n) sh) lots2 sh2) 0 w ∈ endsOf (endsOf en sh) sh2 ↔ rn st b w ∈ en)) ∧
    ∃ S : List Nat, S.length = sh2.length ∧ (∀ s ∈ S, s < n) ∧ S.Pairwise fun x y => ¬ same st en k x y := by
  have T2 := items_tab T W
  have h0 : 0 < sh.length := (List.getElem?_eq_some_iff.mp W.ok.hd).1
  refine ⟨fun w hw => (least_takes T2 O W2 h0 hw).trans (stab_takes T stab_range W W.ok.hd hw), sh2.map fun i => sh.getD i 0, by simp, fun s hs => ?_, ?_⟩
  · obtain ⟨i, hi, rfl⟩ := List.mem_map.mp hs
    have hi := W2.ok.lt i hi
    refine W.ok.lt _ ?_
    simp [List.getD_eq_getElem?_getD, List.getElem?_eq_getElem hi]
  · have nd : sh2.Pairwise fun x y => lo lots2 x ≠ lo lots2 y := List.pairwise_map.mp W2.ok.nd
    refine List.pairwise_map.mpr ?_
    refine nd.imp_of_mem fun {x y} hx hy hxy h => hxy ?_
    have hx := W2.ok.lt x hx
    have hy := W2.ok.lt y hy
    refine (O.iff x y hx hy).mpr fun w hw => ?_
    have ex : sh[x]? = some (sh.getD x 0) := by simp [List.getD_eq_getElem?_getD, List.getElem?_eq_getElem hx]
    have ey : sh[y]? = some (sh.getD y 0) := by simp [List.getD_eq_getElem?_getD, List.getElem?_eq_getElem hy]
    exact (stab_takes T stab_range W ex hw).trans ((h w hw).trans (stab_takes T stab_range W ey hw).symm)
end
/-! ### the pairs as codes -/
def pst (st1 st2 : List (List Nat)) (n1 n2 : Nat) : List (List Nat) := (List.range (n1 * n2)).map fun c => List.zipWith (fun x y => x * n2 + y) (st1.getD (c / n2) []) (st2.getD (c % n2) [])
section
variable {st1 st2 : List (List Nat)} {n1 n2 k : Nat}
theorem pair_lt {x y : Nat} (hx : x < n1) (hy : y < n2) : x * n2 + y < n1 * n2 := by
  have : (x + 1) * n2 ≤ n1 * n2 := Nat.mul_le_mul_right _ hx
  rw [Nat.add_mul, Nat.one_mul] at this
  omega
theorem pair_div {x y : Nat} (hy : y < n2) : (x * n2 + y) / n2 = x ∧ (x * n2 + y) % n2 = y := by
  have h0 : 0 < n2 := by omega
  constructor
  · rw [Nat.mul_comm, Nat.mul_add_div h0, Nat.div_eq_of_lt hy, Nat.add_zero]
  · rw [Nat.mul_comm, Nat.mul_add_mod, Nat.mod_eq_of_lt hy]
theorem div_lt {c : Nat} (h : c < n1 * n2) : c / n2 < n1 ∧ c % n2 < n2 := by
  have h0 : 0 < n2 := by
    rcases Nat.eq_zero_or_pos n2 with z | z
    · rw [z, Nat.mul_zero] at h
      omega
    · exact z
  exact ⟨(Nat.div_lt_iff_lt_mul h0).mpr h, Nat.mod_lt _ h0⟩
theorem code_eq (c : Nat) : c / n2 * n2 + c % n2 = c := by rw [Nat.mul_comm]; exact Nat.div_add_mod c n2
theorem pst_row {x y : Nat} {r1 r2 : List Nat} (hx : x < n1) (hy : y < n2) (e1 : st1[x]? = some r1) (e2 : st2[y]? = some r2) : (pst st1 st2 n1 n2)[x * n2 + y]? = some (List.zipWith (fun x y => x * n2 + y) r1 r2) := by
  obtain ⟨d1, d2⟩ := pair_div (x := x) hy
  unfold pst
  simp [pair_lt hx hy, d1, d2, e1, e2]
theorem pst_tab (T1 : Tab st1 n1 k) (T2 : Tab st2 n2 k) : Tab (pst st1 st2 n1 n2) (n1 * n2) k := by
  refine ⟨by simp [pst], fun c hc => ?_⟩
  obtain ⟨h1, h2⟩ := div_lt hc
  obtain ⟨r1, e1, l1, g1⟩ := T1.row _ h1
  obtain ⟨r2, e2, l2, g2⟩ := T2.row _ h2
  have := pst_row h1 h2 e1 e2
  rw [code_eq] at this
  refine ⟨_, this, by simp [l1, l2], fun g hg => ?_⟩
  obtain ⟨i, hi⟩ := List.mem_iff_getElem?.mp hg
  rw [List.getElem?_zipWith] at hi
  cases a1 : r1[i]? with
  | none => rw [a1] at hi; cases hi
  | some u =>
    cases a2 : r2[i]? with
    | none => rw [a1, a2] at hi; cases hi
    | some v =>
      rw [a1, a2] at hi
      cases hi
      exact pair_lt (g1 u (List.mem_of_getElem? a1)) (g2 v (List.mem_of_getElem? a2))
theorem pst_nx (T1 : Tab st1 n1 k) (T2 : Tab st2 n2 k) {x y i : Nat} (hx : x < n1) (hy : y < n2) (hi : i < k) : nx (pst st1 st2 n1 n2) (x * n2 + y) i = nx st1 x i * n2 + nx st2 y i := by
  obtain ⟨r1, e1, l1, g1⟩ := T1.row _ hx
  obtain ⟨r2, e2, l2, g2⟩ := T2.row _ hy
  rw [← row_get (pst_row hx hy e1 e2) i, ← row_get e1 i, ← row_get e2 i]
  simp [List.getD_eq_getElem?_getD, List.getElem?_zipWith, List.getElem?_eq_getElem (show i < r1.length by omega), List.getElem?_eq_getElem (show i < r2.length by omega)]
theorem pst_rn (T1 : Tab st1 n1 k) (T2 : Tab st2 n2 k) : ∀ {w : List Nat} {x y : Nat}, x < n1 → y < n2 → (∀ c ∈ w, c < k) → rn (pst st1 st2 n1 n2) (x * n2 + y) w = rn st1 x w * n2 + rn st2 y w
  | [], _, _, _, _, _ => rfl
  | c :: w, x, y, hx, hy, hw => by
    have hc := hw c List.mem_cons_self
    rw [rn_cons, rn_cons, rn_cons, pst_nx T1 T2 hx hy hc]
    exact pst_rn T1 T2 (T1.nx hx hc) (T2.nx hy hc) fun d hd => hw d (List.mem_cons_of_mem _ hd)
end
/-- the codes of the pairs at an end -/
def pen (c : Nat → Nat → Bool) (n1 n2 : Nat) : List Nat := (List.range (n1 * n2)).filter fun x => c (x / n2) (x % n2)
theorem mem_pen {c : Nat → Nat → Bool} {n1 n2 x y : Nat} (hx : x < n1) (hy : y < n2) : x * n2 + y ∈ pen c n1 n2 ↔ c x y = true := by
  obtain ⟨d1, d2⟩ := pair_div (x := x) hy
  unfold pen
  rw [List.mem_filter, List.mem_range, d1, d2]
  exact ⟨fun h => h.2, fun h => ⟨pair_lt hx hy, h⟩⟩
theorem mem_pen' {c : Nat → Nat → Bool} {n1 n2 x : Nat} (hx : x < n1 * n2) : x ∈ pen c n1 n2 ↔ c (x / n2) (x % n2) = true := by
  unfold pen
  rw [List.mem_filter, List.mem_range]
  exact ⟨fun h => h.2, fun h => ⟨hx, h⟩⟩
end PM

set_option linter.all false
set_option maxRecDepth 10000
/-! Plain facts of machines, part 5: machines that take the same rows have one least machine. -/
namespace PM
def lang (st1 : List (List Nat)) (en1 : List Nat) (a : Nat) (st2 : List (List Nat)) (en2 : List Nat) (b k : Nat) : Prop := ∀ w : List Nat, (∀ i ∈ w, i < k) → (rn st1 a w ∈ en1 ↔ rn st2 b w ∈ en2)
def Alike (R : Nat → Nat → Prop) (l m : List Nat) : Prop := l.length = m.length ∧ ∀ (i x y : Nat), l[i]? = some x → m[i]? = some y → R x y
theorem Alike.cons {R : Nat → Nat → Prop} {x y : Nat} {l m : List Nat} (h : Alike R (x :: l) (y :: m)) : R x y ∧ Alike R l m :=
  ⟨h.2 0 x y rfl rfl, by simpa using h.1, fun i u v a b => h.2 (i + 1) u v (by simpa using a) (by simpa using b)⟩
theorem ixOf_alike : ∀ {A B : List Nat} {a b : Nat}, A.length = B.length → (∀ (i x y : Nat), A[i]? = some x → B[i]? = some y → (x = a ↔ y = b)) → ixOf a A = ixOf b B
  | [], [], _, _, _, _ => rfl
  | x :: A, y :: B, a, b, hl, h => by
    unfold ixOf
    have h0 := h 0 x y rfl rfl
    by_cases e : x = a
    · rw [if_pos e, if_pos (h0.mp e)]
    · rw [if_neg e, if_neg fun z => e (h0.mpr z), ixOf_alike (A := A) (B := B) (by simpa using hl) fun i u v p q => h (i + 1) u v (by simpa using p) (by simpa using q)]
  | [], _ :: _, _, _, hl, _ => by simp at hl
  | _ :: _, [], _, _, hl, _ => by simp at hl
structure Two (st1 : List (List Nat)) (en1 : List Nat) (n1 : Nat) (lots1 : List Nat) (st2 : List (List Nat)) (en2 : List Nat) (n2 : Nat) (lots2 : List Nat) (k : Nat) : Prop where
  t1 : Tab st1 n1 k
  t2 : Tab st2 n2 k
  o1 : Lots st1 en1 n1 k lots1
  o2 : Lots st2 en2 n2 k lots2
section
variable {st1 st2 : List (List Nat)} {en1 en2 lots1 lots2 : List Nat} {n1 n2 k : Nat}
def Rel (st1 : List (List Nat)) (en1 : List Nat) (n1 : Nat) (st2 : List (List Nat)) (en2 : List Nat) (n2 k : Nat) (x y : Nat) : Prop := x < n1 ∧ y < n2 ∧ lang st1 en1 x st2 en2 y k
theorem Two.nx (W : Two st1 en1 n1 lots1 st2 en2 n2 lots2 k) {x y i : Nat} (h : Rel st1 en1 n1 st2 en2 n2 k x y) (hi : i < k) : Rel st1 en1 n1 st2 en2 n2 k (nx st1 x i) (nx st2 y i) :=
  ⟨W.t1.nx h.1 hi, W.t2.nx h.2.1 hi, fun w hw => h.2.2 (i :: w) fun j hj => by
    rcases List.mem_cons.mp hj with rfl | z
    · exact hi
    · exact hw j z⟩
theorem Two.lo (W : Two st1 en1 n1 lots1 st2 en2 n2 lots2 k) {x y x' y' : Nat} (h : Rel st1 en1 n1 st2 en2 n2 k x y) (h' : Rel st1 en1 n1 st2 en2 n2 k x' y') : lo lots1 x = lo lots1 x' ↔ lo lots2 y = lo lots2 y' := by
  rw [W.o1.iff x x' h.1 h'.1, W.o2.iff y y' h.2.1 h'.2.1]
  exact ⟨fun s w hw => (h.2.2 w hw).symm.trans ((s w hw).trans (h'.2.2 w hw)), fun s w hw => (h.2.2 w hw).trans ((s w hw).trans (h'.2.2 w hw).symm)⟩
theorem Two.ix (W : Two st1 en1 n1 lots1 st2 en2 n2 lots2 k) {sh1 sh2 : List Nat} (A : Alike (Rel st1 en1 n1 st2 en2 n2 k) sh1 sh2) {g1 g2 : Nat} (h : Rel st1 en1 n1 st2 en2 n2 k g1 g2) :
    ixOf (PM.lo lots1 g1) (sh1.map (PM.lo lots1)) = ixOf (PM.lo lots2 g2) (sh2.map (PM.lo lots2)) := by
  refine ixOf_alike (by simp [A.1]) fun i x y hx hy => ?_
  rw [List.getElem?_map] at hx hy
  cases e1 : sh1[i]? with
  | none => rw [e1] at hx; cases hx
  | some u =>
    cases e2 : sh2[i]? with
    | none => rw [e2] at hy; cases hy
    | some v =>
      rw [e1] at hx
      rw [e2] at hy
      cases hx
      cases hy
      exact W.lo (A.2 i u v e1 e2) h
theorem ixOf_none {c : Nat} : ∀ {l : List Nat}, ixOf c l = none ↔ c ∉ l
  | [] => by simp [ixOf]
  | x :: l => by
    unfold ixOf
    by_cases e : x = c
    · simp [e]
    · have ih := ixOf_none (c := c) (l := l)
      simp [e, ih, Ne.symm e]
theorem Two.mem (W : Two st1 en1 n1 lots1 st2 en2 n2 lots2 k) {sh1 sh2 : List Nat} (A : Alike (Rel st1 en1 n1 st2 en2 n2 k) sh1 sh2) {g1 g2 : Nat} (h : Rel st1 en1 n1 st2 en2 n2 k g1 g2) :
    PM.lo lots1 g1 ∈ sh1.map (PM.lo lots1) ↔ PM.lo lots2 g2 ∈ sh2.map (PM.lo lots2) := by
  have e := W.ix A h
  rw [← Decidable.not_iff_not, ← ixOf_none, ← ixOf_none, e]
theorem Two.add (W : Two st1 en1 n1 lots1 st2 en2 n2 lots2 k) {sh1 sh2 : List Nat} (A : Alike (Rel st1 en1 n1 st2 en2 n2 k) sh1 sh2) {g1 g2 : Nat} (h : Rel st1 en1 n1 st2 en2 n2 k g1 g2) :
    Alike (Rel st1 en1 n1 st2 en2 n2 k) (PM.add lots1 sh1 g1) (PM.add lots2 sh2 g2) := by
  unfold PM.add
  by_cases e : PM.lo lots1 g1 ∈ sh1.map (PM.lo lots1)
  · rw [if_pos e, if_pos ((W.mem A h).mp e)]
    exact A
  · rw [if_neg e, if_neg fun z => e ((W.mem A h).mpr z)]
    refine ⟨by simp [A.1], fun i x y hx hy => ?_⟩
    by_cases hi : i < sh1.length
    · rw [List.getElem?_append_left hi] at hx
      rw [List.getElem?_append_left (by rw [← A.1]; exact hi)] at hy
      exact A.2 i x y hx hy
    · rw [List.getElem?_append_right (by omega)] at hx
      rw [List.getElem?_append_right (by rw [← A.1]; omega)] at hy
      have e1 := List.mem_of_getElem? hx
      have e2 := List.mem_of_getElem? hy
      rw [List.mem_singleton] at e1 e2
      rw [e1, e2]
      exact h
theorem Two.fold (W : Two st1 en1 n1 lots1 st2 en2 n2 lots2 k) : ∀ {r1 r2 sh1 sh2 : List Nat}, Alike (Rel st1 en1 n1 st2 en2 n2 k) r1 r2 → Alike (Rel st1 en1 n1 st2 en2 n2 k) sh1 sh2 → Alike (Rel st1 en1 n1 st2 en2 n2 k) (r1.foldl (PM.add lots1) sh1) (r2.foldl (PM.add lots2) sh2)
  | [], [], _, _, _, A => A
  | g1 :: r1, g2 :: r2, _, _, h, A => by
    have := W.fold h.cons.2 (W.add A h.cons.1)
    exact this
  | [], _ :: _, _, _, h, _ => by simp [Alike] at h
  | _ :: _, [], _, _, h, _ => by simp [Alike] at h
theorem Two.row (W : Two st1 en1 n1 lots1 st2 en2 n2 lots2 k) {x y : Nat} (h : Rel st1 en1 n1 st2 en2 n2 k x y) : Alike (Rel st1 en1 n1 st2 en2 n2 k) (st1.getD x []) (st2.getD y []) := by
  obtain ⟨r1, e1, l1, _⟩ := W.t1.row x h.1
  obtain ⟨r2, e2, l2, _⟩ := W.t2.row y h.2.1
  simp only [List.getD_eq_getElem?_getD, e1, e2, Option.getD_some]
  refine ⟨by omega, fun i u v hu hv => ?_⟩
  have hi := (List.getElem?_eq_some_iff.mp hu).1
  have a1 : u = PM.nx st1 x i := by rw [← row_get e1 i]; simp [List.getD_eq_getElem?_getD, hu]
  have a2 : v = PM.nx st2 y i := by rw [← row_get e2 i]; simp [List.getD_eq_getElem?_getD, hv]
  rw [a1, a2]
  exact W.nx h (by omega)
theorem Two.it (W : Two st1 en1 n1 lots1 st2 en2 n2 lots2 k) {b1 b2 : Nat} (h : Rel st1 en1 n1 st2 en2 n2 k b1 b2) : ∀ p, Live st1 lots1 b1 p → Alike (Rel st1 en1 n1 st2 en2 n2 k) (PM.it st1 lots1 b1 p) (PM.it st2 lots2 b2 p)
  | 0, _ => ⟨rfl, fun i x y hx hy => by
    have e1 := List.mem_of_getElem? hx
    have e2 := List.mem_of_getElem? hy
    unfold PM.it at e1 e2
    rw [List.mem_singleton] at e1 e2
    rw [e1, e2]
    exact h⟩
  | p + 1, L => by
    have A := W.it h p fun q hq => L q (by omega)
    have hp := L p (Nat.lt_succ_self p)
    unfold PM.it turn
    refine W.fold (W.row ?_) A
    have hp2 : p < (PM.it st2 lots2 b2 p).length := by rw [← A.1]; exact hp
    simp only [List.getD_eq_getElem?_getD, List.getElem?_eq_getElem hp, List.getElem?_eq_getElem hp2, Option.getD_some]
    exact A.2 p _ _ (List.getElem?_eq_getElem hp) (List.getElem?_eq_getElem hp2)
theorem Rel.symm {x y : Nat} (h : Rel st1 en1 n1 st2 en2 n2 k x y) : Rel st2 en2 n2 st1 en1 n1 k y x := ⟨h.2.1, h.1, fun w hw => (h.2.2 w hw).symm⟩
theorem Two.symm (W : Two st1 en1 n1 lots1 st2 en2 n2 lots2 k) : Two st2 en2 n2 lots2 st1 en1 n1 lots1 k := ⟨W.t2, W.t1, W.o2, W.o1⟩
/-- one least machine -/
theorem Two.least (W : Two st1 en1 n1 lots1 st2 en2 n2 lots2 k) {b1 b2 p1 p2 : Nat} (h : Rel st1 en1 n1 st2 en2 n2 k b1 b2) (L1 : Live st1 lots1 b1 p1) (e1 : (PM.it st1 lots1 b1 p1).length ≤ p1) (L2 : Live st2 lots2 b2 p2) (e2 : (PM.it st2 lots2 b2 p2).length ≤ p2) :
    itemsOf st1 lots1 (PM.it st1 lots1 b1 p1) = itemsOf st2 lots2 (PM.it st2 lots2 b2 p2) ∧ endsOf en1 (PM.it st1 lots1 b1 p1) = endsOf en2 (PM.it st2 lots2 b2 p2) := by
  have hp : p1 = p2 := by
    rcases Nat.lt_trichotomy p1 p2 with q | q | q
    · have A := W.it h p1 L1
      have := L2 p1 q
      rw [← A.1] at this
      omega
    · exact q
    · have A := W.symm.it h.symm p2 L2
      have := L1 p2 q
      rw [← A.1] at this
      omega
  subst hp
  have A := W.it h p1 L1
  revert A
  generalize PM.it st1 lots1 b1 p1 = sh1
  generalize PM.it st2 lots2 b2 p1 = sh2
  intro A
  refine ⟨List.ext_getElem? fun i => ?_, ?_⟩
  · unfold itemsOf
    rw [List.getElem?_map, List.getElem?_map]
    by_cases hi : i < sh1.length
    · have hi2 : i < sh2.length := by rw [← A.1]; exact hi
      rw [List.getElem?_eq_getElem hi, List.getElem?_eq_getElem hi2, Option.map_some, Option.map_some]
      have B := W.row (A.2 i _ _ (List.getElem?_eq_getElem hi) (List.getElem?_eq_getElem hi2))
      congr 1
      refine List.ext_getElem? fun j => ?_
      rw [List.getElem?_map, List.getElem?_map]
      revert B
      generalize st1.getD sh1[i] [] = r1
      generalize st2.getD sh2[i] [] = r2
      intro B
      by_cases hj : j < r1.length
      · have hj2 : j < r2.length := by rw [← B.1]; exact hj
        rw [List.getElem?_eq_getElem hj, List.getElem?_eq_getElem hj2, Option.map_some, Option.map_some, W.ix A (B.2 j _ _ (List.getElem?_eq_getElem hj) (List.getElem?_eq_getElem hj2))]
      · rw [List.getElem?_eq_none (by omega), List.getElem?_eq_none (by rw [← B.1]; omega)]
        rfl
    · rw [List.getElem?_eq_none (by omega), List.getElem?_eq_none (by rw [← A.1]; omega)]
      rfl
  · unfold endsOf
    rw [← A.1]
    refine List.filter_congr fun i hi => ?_
    have hi := List.mem_range.mp hi
    have hi2 : i < sh2.length := by rw [← A.1]; exact hi
    simp only [List.getD_eq_getElem?_getD, List.getElem?_eq_getElem hi, List.getElem?_eq_getElem hi2, Option.getD_some]
    have := (A.2 i _ _ (List.getElem?_eq_getElem hi) (List.getElem?_eq_getElem hi2)).2.2 [] (by simp)
    simp only [rn, List.foldl_nil] at this
    exact decide_eq_decide.mpr this
end
/-- a machine that goes as another one does -/
theorem lang_of {st1 st2 : List (List Nat)} {en1 en2 : List Nat} {n k : Nat} (T : Tab st2 n k) (h : Nat → Nat) (hn : ∀ s i, s < n → i < k → h (nx st2 s i) = nx st1 (h s) i) (he : ∀ s, s < n → (s ∈ en2 ↔ h s ∈ en1)) : ∀ {s : Nat}, s < n → lang st1 en1 (h s) st2 en2 s k := by
  intro s hs w
  induction w generalizing s with
  | nil => intro _; exact (he s hs).symm
  | cons i w ih =>
    intro hw
    have hi := hw i List.mem_cons_self
    rw [rn_cons, rn_cons, ← hn s i hs hi]
    exact ih (T.nx hs hi) fun j hj => hw j (List.mem_cons_of_mem _ hj)
theorem lang.symm {st1 st2 : List (List Nat)} {en1 en2 : List Nat} {a b k : Nat} (h : lang st1 en1 a st2 en2 b k) : lang st2 en2 b st1 en1 a k := fun w hw => (h w hw).symm
theorem lang.trans {st1 st2 st3 : List (List Nat)} {en1 en2 en3 : List Nat} {a b c k : Nat} (h : lang st1 en1 a st2 en2 b k) (g : lang st2 en2 b st3 en3 c k) : lang st1 en1 a st3 en3 c k := fun w hw => (h w hw).trans (g w hw)
theorem lang.refl {st : List (List Nat)} {en : List Nat} {a k : Nat} : lang st en a st en a k := fun _ _ => Iff.rfl
end PM

set_option linter.all false
set_option maxRecDepth 10000
/-! Plain facts of machines, part 6: lots by other ways; how soon stands part. -/
namespace PM
section
variable {st : List (List Nat)} {en : List Nat} {n k : Nat} {lots : List Nat}
/-- lots made once more from lots are lots -/
theorem lots_next (T : Tab st n k) (O : Lots st en n k lots) {known : List (List Nat)} (nd : known.Nodup) {lots' : List Nat} (hl : lots'.length = n) (h : ∀ s, s < n → known[lo lots' s]? = some (mark st lots s)) : Lots st en n k lots' := by
  refine ⟨hl, fun a b ha hb => ?_⟩
  rw [← O.iff a b ha hb]
  have e : mark st lots a = mark st lots b ↔ lo lots a = lo lots b := by
    rw [mark_eq T ha hb]
    exact ⟨fun z => z.1, fun z => ⟨z, fun i hi => lots_nx T O ha hb z hi⟩⟩
  rw [← e]
  constructor
  · intro q
    have h1 := h a ha
    rw [q, h b hb] at h1
    exact (Option.some.inj h1).symm
  · intro q
    exact nodup_get nd (h a ha) (by rw [q]; exact h b hb)
/-! ### rows of the least machine, told as they come -/
def rowAt (st : List (List Nat)) (lots sh : List Nat) (s : Nat) : List Nat := (st.getD s []).map fun g => (ixOf (lo lots g) (sh.map (lo lots))).getD 0
theorem items_rowAt (st : List (List Nat)) (lots sh : List Nat) : itemsOf st lots sh = sh.map (rowAt st lots sh) := rfl
theorem ixOf_app {c i : Nat} : ∀ {l t : List Nat}, ixOf c l = some i → ixOf c (l ++ t) = some i
  | x :: l, t, h => by
    unfold ixOf at h
    show (if x = c then some 0 else (ixOf c (l ++ t)).map (· + 1)) = some i
    by_cases e : x = c
    · rw [if_pos e] at h ⊢
      exact h
    · rw [if_neg e] at h ⊢
      cases q : ixOf c l with
      | none => rw [q] at h; cases h
      | some j =>
        rw [q] at h
        rw [ixOf_app q]
        exact h
  | [], _, h => by cases h
theorem ixOf_pre {c : Nat} {l m : List Nat} (h : l <+: m) (hc : c ∈ l) : ixOf c m = ixOf c l := by
  obtain ⟨t, rfl⟩ := h
  obtain ⟨i, hi⟩ := ixOf_mem hc
  rw [hi, ixOf_app hi]
theorem rowAt_pre {sh sh' : List Nat} (h : sh <+: sh') {s : Nat} (hc : ∀ g ∈ st.getD s [], lo lots g ∈ sh.map (lo lots)) : rowAt st lots sh' s = rowAt st lots sh s := by
  unfold rowAt
  refine List.map_congr_left fun g hg => ?_
  obtain ⟨t, rfl⟩ := h
  rw [List.map_append]
  obtain ⟨i, hi⟩ := ixOf_mem (hc g hg)
  rw [hi, ixOf_app hi]
theorem take_pre {l m : List Nat} (h : l <+: m) {p : Nat} (hp : p ≤ l.length) : m.take p = l.take p := by
  obtain ⟨t, rfl⟩ := h
  exact List.take_append_of_le_length hp
/-- behind a turn: one row more -/
theorem rows_turn {b p : Nat} (L : Live st lots b (p + 1)) : ((it st lots b (p + 1)).take (p + 1)).map (rowAt st lots (it st lots b (p + 1))) = ((it st lots b p).take p).map (rowAt st lots (it st lots b p)) ++ [rowAt st lots (it st lots b (p + 1)) ((it st lots b p).getD p 0)] := by
  have hp := L p (Nat.lt_succ_self p)
  have hpre := it_pre (st := st) (lots := lots) (b := b) p
  have e1 : (it st lots b (p + 1)).take (p + 1) = (it st lots b p).take p ++ [(it st lots b p).getD p 0] := by
    rw [take_pre hpre (by omega), List.take_add_one, List.getElem?_eq_getElem hp]
    simp [List.getD_eq_getElem?_getD, List.getElem?_eq_getElem hp]
  rw [e1, List.map_append]
  congr 1
  refine List.map_congr_left fun s hs => rowAt_pre hpre fun g hg => ?_
  obtain ⟨q, hq⟩ := List.mem_iff_getElem?.mp hs
  have hql : q < p := by
    have := (List.getElem?_eq_some_iff.mp hq).1
    rw [List.length_take] at this
    omega
  have e2 : (it st lots b p).getD q 0 = s := by
    rw [List.getElem?_take_of_lt hql] at hq
    simp [List.getD_eq_getElem?_getD, hq]
  exact it_done (fun x hx => L x (by omega)) q hql g (by rw [e2]; exact hg)
/-! ### rows of a length -/
def words (k : Nat) : Nat → List (List Nat)
  | 0 => [[]]
  | t + 1 => (words k t).flatMap fun w => (List.range k).map fun i => w ++ [i]
theorem mem_words {k : Nat} : ∀ {t : Nat} {w : List Nat}, w ∈ words k t ↔ w.length = t ∧ ∀ i ∈ w, i < k
  | 0, w => by
    unfold words
    rw [List.mem_singleton]
    constructor
    · rintro rfl
      simp
    · rintro ⟨h, _⟩
      exact List.eq_nil_of_length_eq_zero h
  | t + 1, w => by
    unfold words
    rw [List.mem_flatMap]
    constructor
    · rintro ⟨v, hv, h⟩
      obtain ⟨i, hi, rfl⟩ := List.mem_map.mp h
      obtain ⟨h1, h2⟩ := mem_words.mp hv
      refine ⟨by simp [h1], fun j hj => ?_⟩
      rcases List.mem_append.mp hj with z | z
      · exact h2 j z
      · rw [List.mem_singleton] at z
        rw [z]
        exact List.mem_range.mp hi
    · rintro ⟨h1, h2⟩
      have hne : w ≠ [] := fun z => by rw [z] at h1; simp at h1
      refine ⟨w.dropLast, mem_words.mpr ⟨by rw [List.length_dropLast]; omega, fun i hi => h2 i ((List.dropLast_sublist w).subset hi)⟩, List.mem_map.mpr ⟨w.getLast hne, List.mem_range.mpr (h2 _ (List.getLast_mem hne)), List.dropLast_concat_getLast hne⟩⟩
def bit (en : List Nat) (s : Nat) : Nat := if s ∈ en then 1 else 0
def sigs (st : List (List Nat)) (en : List Nat) (k t s : Nat) : List Nat := ((List.range (t + 1)).flatMap (words k)).map fun w => bit en (rn st s w)
def E (st : List (List Nat)) (en : List Nat) (k t a b : Nat) : Prop := ∀ w : List Nat, w.length ≤ t → (∀ i ∈ w, i < k) → (rn st a w ∈ en ↔ rn st b w ∈ en)
theorem bit_eq {a b : Nat} : bit en a = bit en b ↔ (a ∈ en ↔ b ∈ en) := by
  unfold bit
  by_cases h : a ∈ en <;> by_cases g : b ∈ en <;> simp [h, g]
theorem sigs_eq {t a b : Nat} : sigs st en k t a = sigs st en k t b ↔ E st en k t a b := by
  unfold sigs
  rw [List.map_inj_left]
  constructor
  · intro h w hw hk
    refine bit_eq.mp (h w (List.mem_flatMap.mpr ⟨w.length, List.mem_range.mpr (by omega), mem_words.mpr ⟨rfl, hk⟩⟩))
  · intro h w hw
    obtain ⟨j, hj, hw⟩ := List.mem_flatMap.mp hw
    obtain ⟨h1, h2⟩ := mem_words.mp hw
    exact bit_eq.mpr (h w (by have := List.mem_range.mp hj; omega) h2)
theorem E_refl {t a : Nat} : E st en k t a a := fun _ _ _ => Iff.rfl
theorem E_symm {t a b : Nat} (h : E st en k t a b) : E st en k t b a := fun w h1 h2 => (h w h1 h2).symm
theorem E_trans {t a b c : Nat} (h : E st en k t a b) (g : E st en k t b c) : E st en k t a c := fun w h1 h2 => (h w h1 h2).trans (g w h1 h2)
theorem E_down {t a b : Nat} (h : E st en k (t + 1) a b) : E st en k t a b := fun w h1 h2 => h w (by omega) h2
theorem E_stable (T : Tab st n k) {t : Nat} (h : ∀ a b, a < n → b < n → E st en k t a b → E st en k (t + 1) a b) : ∀ {w : List Nat} {a b : Nat}, a < n → b < n → E st en k t a b → (∀ i ∈ w, i < k) → (rn st a w ∈ en ↔ rn st b w ∈ en)
  | [], a, b, _, _, e, hw => e [] (Nat.zero_le _) hw
  | i :: w, a, b, ha, hb, e, hw => by
    have hi := hw i List.mem_cons_self
    rw [rn_cons, rn_cons]
    refine E_stable T h (T.nx ha hi) (T.nx hb hi) (fun v hv hk => ?_) fun j hj => hw j (List.mem_cons_of_mem _ hj)
    have := h a b ha hb e (i :: v) (by simp; omega) fun j hj => by
      rcases List.mem_cons.mp hj with rfl | z
      · exact hi
      · exact hk j z
    simpa [rn_cons] using this
/-- as many rounds, as many classes, or all are parted -/
theorem classes (T : Tab st n k) (h0 : 0 < n) (hs : ∀ a b, a < n → b < n → same st en k a b → a = b) : ∀ t, (∀ a b, a < n → b < n → E st en k t a b → a = b) ∨ ∃ L : List Nat, t + 1 ≤ L.length ∧ (∀ x ∈ L, x < n) ∧ L.Pairwise fun x y => ¬ E st en k t x y
  | 0 => .inr ⟨[0], Nat.le_refl _, fun x hx => by rw [List.mem_singleton] at hx; omega, by simp⟩
  | t + 1 => by
    rcases classes T h0 hs t with h | ⟨L, h1, h2, h3⟩
    · exact .inl fun a b ha hb e => h a b ha hb (E_down e)
    · by_cases q : ∀ a b, a < n → b < n → E st en k t a b → E st en k (t + 1) a b
      · exact .inl fun a b ha hb e => hs a b ha hb fun w hw => E_stable T q ha hb (E_down e) hw
      · refine .inr ?_
        simp only [Classical.not_forall] at q
        obtain ⟨a, b, ha, hb, e, ne⟩ := q
        have more : ∀ c, c < n → (∀ x ∈ L, ¬ E st en k (t + 1) x c) → ∃ L : List Nat, t + 1 + 1 ≤ L.length ∧ (∀ x ∈ L, x < n) ∧ L.Pairwise fun x y => ¬ E st en k (t + 1) x y := fun c hc hx => by
          refine ⟨L ++ [c], by simp; omega, fun x hx' => ?_, List.pairwise_append.mpr ⟨h3.imp fun z y => z (E_down y), by simp, fun x hx' y hy => ?_⟩⟩
          · rcases List.mem_append.mp hx' with z | z
            · exact h2 x z
            · rw [List.mem_singleton] at z
              rw [z]
              exact hc
          · rw [List.mem_singleton] at hy
            rw [hy]
            exact hx x hx'
        by_cases g : ∃ x ∈ L, E st en k (t + 1) x a
        · obtain ⟨x, hx, ex⟩ := g
          refine more b hb fun y hy ey => ?_
          by_cases z : y = x
          · subst z
            exact ne (E_trans (E_symm ex) ey)
          · have exy : E st en k t y x := E_trans (E_down ey) (E_trans (E_symm e) (E_symm (E_down ex)))
            obtain ⟨i, hi⟩ := List.mem_iff_getElem.mp hx
            obtain ⟨j, hj⟩ := List.mem_iff_getElem.mp hy
            obtain ⟨hi, rfl⟩ := hi
            obtain ⟨hj, rfl⟩ := hj
            rcases Nat.lt_trichotomy i j with o | o | o
            · exact List.pairwise_iff_getElem.mp h3 i j hi hj o (E_symm exy)
            · exact z (by subst o; rfl)
            · exact List.pairwise_iff_getElem.mp h3 j i hj hi o exy
        · exact more a ha fun x hx z => g ⟨x, hx, z⟩
theorem parted_by (T : Tab st n k) (hs : ∀ a b, a < n → b < n → same st en k a b → a = b) {a b : Nat} (ha : a < n) (hb : b < n) (h : E st en k n a b) : a = b := by
  rcases classes T (by omega) hs n with g | ⟨L, h1, h2, h3⟩
  · exact g a b ha hb h
  · have nd : L.Nodup := h3.imp fun z e => z (by rw [e]; exact E_refl)
    have := sub_len (b := List.range n) nd fun x hx => List.mem_range.mpr (h2 x hx)
    rw [List.length_range] at this
    omega
end
end PM

set_option linter.all false
set_option maxRecDepth 10000
/-! Plain facts of machines, part 7: a twin more, stands otherwise called. -/
namespace PM
section
variable {st st2 : List (List Nat)} {en en2 : List Nat} {n k : Nat}
/-- stand n is a twin of stand tw -/
theorem lang_twin (T : Tab st n k) (T2 : Tab st2 (n + 1) k) {tw : Nat} (htw : tw < n) (h1 : ∀ s, s < n → ∀ i, i < k → nx st2 s i = nx st s i ∨ (nx st2 s i = n ∧ nx st s i = tw)) (h2 : ∀ i, i < k → nx st2 n i = nx st tw i)
    (he : ∀ s, s < n → (s ∈ en2 ↔ s ∈ en)) (hn : n ∈ en2 ↔ tw ∈ en) {b : Nat} (hb : b < n) : lang st en b st2 en2 b k := by
  have := lang_of (st1 := st) (en1 := en) (st2 := st2) (en2 := en2) T2 (fun s => if s = n then tw else s) (fun s i hs hi => ?_) (fun s hs => ?_) (s := b) (by omega)
  · simpa [show b ≠ n by omega] using this
  · by_cases e : s = n
    · subst e
      rw [if_pos rfl, h2 i hi, if_neg]
      have := T.nx htw hi
      omega
    · rw [if_neg e]
      have hs' : s < n := by omega
      rcases h1 s hs' i hi with z | ⟨z1, z2⟩
      · rw [z, if_neg]
        have := T.nx hs' hi
        omega
      · rw [z1, if_pos rfl, z2]
  · by_cases e : s = n
    · subst e
      rw [if_pos rfl]
      exact hn
    · rw [if_neg e]
      exact he s (by omega)
/-- new names of the stands -/
structure Names (od : List Nat) (n : Nat) : Prop where
  nd : od.Nodup
  mem : ∀ x, x ∈ od ↔ x < n
theorem Names.len {od : List Nat} (h : Names od n) : od.length = n := by
  have h1 := sub_len (b := List.range n) h.nd fun x hx => List.mem_range.mpr ((h.mem x).mp hx)
  have h2 := sub_len (a := List.range n) (b := od) List.nodup_range fun x hx => (h.mem x).mpr (List.mem_range.mp hx)
  rw [List.length_range] at h1 h2
  omega
theorem Names.lt {od : List Nat} (h : Names od n) {s : Nat} (hs : s < n) : od.getD s 0 < n := by
  have hl := h.len
  rw [List.getD_eq_getElem?_getD, List.getElem?_eq_getElem (by omega)]
  exact (h.mem _).mp (List.getElem_mem _)
theorem Names.back {od : List Nat} (h : Names od n) {s : Nat} (hs : s < n) : (ixOf (od.getD s 0) od).getD 0 = s := by
  have hl := h.len
  rw [List.getD_eq_getElem?_getD, List.getElem?_eq_getElem (by omega), Option.getD_some, ixOf_nodup h.nd (List.getElem?_eq_getElem _)]
  rfl
theorem Names.ix {od : List Nat} (h : Names od n) {x : Nat} (hx : x < n) : (ixOf x od).getD 0 < n ∧ od.getD ((ixOf x od).getD 0) 0 = x := by
  obtain ⟨i, hi⟩ := ixOf_mem ((h.mem x).mpr hx)
  have h1 := (ixOf_at hi).1
  have hl := h.len
  have := (List.getElem?_eq_some_iff.mp h1).1
  rw [hi, Option.getD_some]
  exact ⟨by omega, by rw [List.getD_eq_getElem?_getD, h1]; rfl⟩
/-- the table by new names -/
def renamed (st : List (List Nat)) (od : List Nat) (n : Nat) : List (List Nat) := (List.range n).map fun x => (st.getD ((ixOf x od).getD 0) []).map fun g => od.getD g 0
theorem renamed_tab (T : Tab st n k) {od : List Nat} (h : Names od n) : Tab (renamed st od n) n k := by
  refine ⟨by simp [renamed], fun x hx => ?_⟩
  obtain ⟨r, e, l, g⟩ := T.row _ (h.ix hx).1
  refine ⟨r.map fun g => od.getD g 0, by simp [renamed, hx, List.getD_eq_getElem?_getD, e], by simp [l], fun y hy => ?_⟩
  obtain ⟨z, hz, rfl⟩ := List.mem_map.mp hy
  exact h.lt (g z hz)
theorem renamed_nx (T : Tab st n k) {od : List Nat} (h : Names od n) {x i : Nat} (hx : x < n) (hi : i < k) : nx (renamed st od n) x i = od.getD (nx st ((ixOf x od).getD 0) i) 0 := by
  obtain ⟨r, e, l, g⟩ := T.row _ (h.ix hx).1
  have e2 : (renamed st od n)[x]? = some (r.map fun g => od.getD g 0) := by simp [renamed, hx, List.getD_eq_getElem?_getD, e]
  rw [← row_get e2 i, ← row_get e i]
  simp [List.getD_eq_getElem?_getD, List.getElem?_eq_getElem (show i < r.length by omega)]
theorem lang_renamed (T : Tab st n k) {od : List Nat} (h : Names od n) (he : ∀ s, s < n → (od.getD s 0 ∈ en2 ↔ s ∈ en)) {b : Nat} (hb : b < n) : lang st en b (renamed st od n) en2 (od.getD b 0) k := by
  have := lang_of (st1 := st) (en1 := en) (st2 := renamed st od n) (en2 := en2) (renamed_tab T h) (fun x => (ixOf x od).getD 0) (fun s i hs hi => ?_) (fun s hs => ?_) (s := od.getD b 0) (h.lt hb)
  · simp only [h.back hb] at this
    exact this
  · show (ixOf (nx (renamed st od n) s i) od).getD 0 = nx st ((ixOf s od).getD 0) i
    rw [renamed_nx T h hs hi, h.back (T.nx (h.ix hs).1 hi)]
  · have := he _ (h.ix hs).1
    rw [(h.ix hs).2] at this
    exact this
end
end PM

set_option linter.all false
set_option maxRecDepth 10000
/-! Plain facts of machines, part 8: how soon stands part, alike ones too; two machines as one. -/
namespace PM
section
variable {st : List (List Nat)} {en : List Nat} {n k : Nat}
theorem classes2 (T : Tab st n k) : ∀ t, (∃ s, s ≤ t ∧ ∀ a b, a < n → b < n → E st en k s a b → E st en k (s + 1) a b) ∨ ∃ L : List Nat, t + 2 ≤ L.length ∧ (∀ x ∈ L, x < n) ∧ L.Pairwise fun x y => ¬ E st en k t x y
  | 0 => by
    by_cases q : ∀ a b, a < n → b < n → E st en k 0 a b → E st en k 1 a b
    · exact .inl ⟨0, Nat.le_refl _, q⟩
    · refine .inr ?_
      simp only [Classical.not_forall] at q
      obtain ⟨a, b, ha, hb, e, ne⟩ := q
      have : ∃ w : List Nat, w.length ≤ 1 ∧ (∀ i ∈ w, i < k) ∧ ¬ (rn st a w ∈ en ↔ rn st b w ∈ en) := Classical.byContradiction fun z => ne fun w h1 h2 => Classical.byContradiction fun y => z ⟨w, h1, h2, y⟩
      obtain ⟨w, h1, h2, h3⟩ := this
      refine ⟨[rn st a w, rn st b w], Nat.le_refl _, fun x hx => ?_, List.pairwise_pair.mpr fun z => h3 (by simpa [rn] using z [] (Nat.zero_le _) (fun _ y => nomatch y))⟩
      simp only [List.mem_cons, List.not_mem_nil, or_false] at hx
      rcases hx with rfl | rfl
      · exact T.rn ha h2
      · exact T.rn hb h2
  | t + 1 => by
    rcases classes2 T t with ⟨s, h1, h2⟩ | ⟨L, h1, h2, h3⟩
    · exact .inl ⟨s, Nat.le_succ_of_le h1, h2⟩
    · by_cases q : ∀ a b, a < n → b < n → E st en k t a b → E st en k (t + 1) a b
      · exact .inl ⟨t, Nat.le_succ _, q⟩
      · refine .inr ?_
        simp only [Classical.not_forall] at q
        obtain ⟨a, b, ha, hb, e, ne⟩ := q
        have more : ∀ c, c < n → (∀ x ∈ L, ¬ E st en k (t + 1) x c) → ∃ L : List Nat, t + 1 + 2 ≤ L.length ∧ (∀ x ∈ L, x < n) ∧ L.Pairwise fun x y => ¬ E st en k (t + 1) x y := fun c hc hx => by
          refine ⟨L ++ [c], by simp; omega, fun x hx' => ?_, List.pairwise_append.mpr ⟨h3.imp fun z y => z (E_down y), by simp, fun x hx' y hy => by rw [List.mem_singleton.mp hy]; exact hx x hx'⟩⟩
          rcases List.mem_append.mp hx' with z | z
          · exact h2 x z
          · rw [List.mem_singleton.mp z]; exact hc
        by_cases g : ∃ x ∈ L, E st en k (t + 1) x a
        · obtain ⟨x, hx, ex⟩ := g
          refine more b hb fun y hy ey => ?_
          by_cases z : y = x
          · exact ne (E_trans (E_symm ex) (z ▸ ey))
          · have exy : E st en k t y x := E_trans (E_down ey) (E_trans (E_symm e) (E_symm (E_down ex)))
            obtain ⟨i, hi, rfl⟩ := List.mem_iff_getElem.mp hx
            obtain ⟨j, hj, rfl⟩ := List.mem_iff_getElem.mp hy
            rcases Nat.lt_trichotomy i j with o | o | o
            · exact List.pairwise_iff_getElem.mp h3 i j hi hj o (E_symm exy)
            · exact z (by subst o; rfl)
            · exact List.pairwise_iff_getElem.mp h3 j i hj hi o exy
        · exact more a ha fun x hx z => g ⟨x, hx, z⟩
/-- stands that part, part soon -/
theorem soon (T : Tab st n k) {a b : Nat} (ha : a < n) (hb : b < n) (h : E st en k (n - 1) a b) : same st en k a b := by
  rcases classes2 (en := en) T (n - 1) with ⟨s, h1, h2⟩ | ⟨L, h1, h2, h3⟩
  · exact fun w hw => E_stable T h2 ha hb (fun v hv hk => h v (by omega) hk) hw
  · have nd : L.Nodup := h3.imp fun z e => z (by rw [e]; exact E_refl)
    have := sub_len (b := List.range n) nd fun x hx => List.mem_range.mpr (h2 x hx)
    rw [List.length_range] at this
    omega
end
/-! ### two machines as one -/
section
variable {st1 st2 : List (List Nat)} {en1 en2 : List Nat} {n1 n2 k : Nat}
def both2 (st1 st2 : List (List Nat)) (n1 : Nat) : List (List Nat) := st1 ++ st2.map fun r => r.map fun g => n1 + g
def bothE (en1 en2 : List Nat) (n1 : Nat) : List Nat := en1.filter (fun e => decide (e < n1)) ++ en2.map fun e => n1 + e
theorem both2_tab (T1 : Tab st1 n1 k) (T2 : Tab st2 n2 k) : Tab (both2 st1 st2 n1) (n1 + n2) k := by
  refine ⟨by simp [both2, T1.len, T2.len], fun s hs => ?_⟩
  by_cases h : s < n1
  · obtain ⟨r, e, h1, h2⟩ := T1.row s h
    exact ⟨r, by unfold both2; rw [List.getElem?_append_left (by rw [T1.len]; exact h)]; exact e, h1, fun g hg => Nat.lt_of_lt_of_le (h2 g hg) (Nat.le_add_right _ _)⟩
  · obtain ⟨r, e, h1, h2⟩ := T2.row (s - n1) (by omega)
    refine ⟨r.map fun g => n1 + g, by unfold both2; rw [List.getElem?_append_right (by rw [T1.len]; omega), T1.len, List.getElem?_map, e]; rfl, by simpa using h1, fun g hg => ?_⟩
    obtain ⟨x, hx, rfl⟩ := List.mem_map.mp hg
    have := h2 x hx
    omega
theorem both2_nx1 (T1 : Tab st1 n1 k) {s i : Nat} (hs : s < n1) : nx (both2 st1 st2 n1) s i = nx st1 s i := by
  unfold nx both2
  simp only [List.getD_eq_getElem?_getD]
  rw [List.getElem?_append_left (by rw [T1.len]; exact hs)]
theorem both2_nx2 (T1 : Tab st1 n1 k) (T2 : Tab st2 n2 k) {s i : Nat} (hs : s < n2) (hi : i < k) : nx (both2 st1 st2 n1) (n1 + s) i = n1 + nx st2 s i := by
  obtain ⟨r, e, h1, h2⟩ := T2.row s hs
  unfold nx both2
  simp only [List.getD_eq_getElem?_getD]
  rw [List.getElem?_append_right (by rw [T1.len]; omega), T1.len, show n1 + s - n1 = s by omega, List.getElem?_map, e]
  simp only [Option.map_some, Option.getD_some, List.getElem?_map]
  have : r[i]? = some (r[i]'(by omega)) := List.getElem?_eq_getElem (by omega)
  rw [this]
  rfl
theorem both2_rn1 (T1 : Tab st1 n1 k) : ∀ {w : List Nat} {s : Nat}, s < n1 → (∀ i ∈ w, i < k) → rn (both2 st1 st2 n1) s w = rn st1 s w
  | [], _, _, _ => rfl
  | i :: w, s, hs, hw => by
    rw [rn_cons, rn_cons, both2_nx1 T1 hs]
    exact both2_rn1 T1 (T1.nx hs (hw i List.mem_cons_self)) fun j hj => hw j (List.mem_cons_of_mem _ hj)
theorem both2_rn2 (T1 : Tab st1 n1 k) (T2 : Tab st2 n2 k) : ∀ {w : List Nat} {s : Nat}, s < n2 → (∀ i ∈ w, i < k) → rn (both2 st1 st2 n1) (n1 + s) w = n1 + rn st2 s w
  | [], _, _, _ => rfl
  | i :: w, s, hs, hw => by
    have hi := hw i List.mem_cons_self
    rw [rn_cons, rn_cons, both2_nx2 T1 T2 hs hi]
    exact both2_rn2 T1 T2 (T2.nx hs hi) fun j hj => hw j (List.mem_cons_of_mem _ hj)
theorem bothE_1 {s : Nat} (h : s < n1) : s ∈ bothE en1 en2 n1 ↔ s ∈ en1 := by
  simp only [bothE, List.mem_append, List.mem_filter, List.mem_map, decide_eq_true_eq]
  exact ⟨fun z => z.elim (·.1) fun ⟨x, _, e⟩ => by omega, fun z => .inl ⟨z, h⟩⟩
theorem bothE_2 {s : Nat} : n1 + s ∈ bothE en1 en2 n1 ↔ s ∈ en2 := by
  simp only [bothE, List.mem_append, List.mem_filter, List.mem_map, decide_eq_true_eq]
  exact ⟨fun z => z.elim (fun y => by omega) fun ⟨x, hx, e⟩ => by rw [show s = x by omega]; exact hx, fun z => .inr ⟨s, z, rfl⟩⟩
/-- rows that part two machines: a short one -/
theorem parts_soon (T1 : Tab st1 n1 k) (T2 : Tab st2 n2 k) {b1 b2 : Nat} (h1 : b1 < n1) (h2 : b2 < n2) {w : List Nat} (hw : ∀ i ∈ w, i < k) (h : ¬ (rn st1 b1 w ∈ en1 ↔ rn st2 b2 w ∈ en2)) :
    ∃ v : List Nat, v.length < n1 + n2 ∧ (∀ i ∈ v, i < k) ∧ ¬ (rn st1 b1 v ∈ en1 ↔ rn st2 b2 v ∈ en2) := by
  have key : ∀ v : List Nat, (∀ i ∈ v, i < k) → ((rn (both2 st1 st2 n1) b1 v ∈ bothE en1 en2 n1 ↔ rn (both2 st1 st2 n1) (n1 + b2) v ∈ bothE en1 en2 n1) ↔ (rn st1 b1 v ∈ en1 ↔ rn st2 b2 v ∈ en2)) := fun v hv => by
    rw [both2_rn1 T1 h1 hv, both2_rn2 T1 T2 h2 hv, bothE_1 (T1.rn h1 hv), bothE_2]
  refine Classical.byContradiction fun z => h ((key w hw).mp (soon (both2_tab T1 T2) (by omega) (by omega) (fun v hv hk => (key v hk).mpr (Classical.byContradiction fun y => z ⟨v, by omega, hk, y⟩)) w hw))
end
end PM

set_option linter.all false
set_option maxRecDepth 10000
/-! Plain facts, part 9: rows in order, stands gone through along the least rows. -/
namespace PM
/-- rows of one length, sign by sign -/
def lexlt : List Nat → List Nat → Prop
  | x :: a, y :: b => x < y ∨ (x = y ∧ lexlt a b)
  | _, _ => False
/-- shorter rows first -/
def slt (a b : List Nat) : Prop := a.length < b.length ∨ (a.length = b.length ∧ lexlt a b)
def sle (a b : List Nat) : Prop := a = b ∨ slt a b
theorem lexlt_trans : ∀ {a b c : List Nat}, lexlt a b → lexlt b c → lexlt a c
  | x :: a, y :: b, z :: c, h, g => by
    rcases h with h | ⟨rfl, h⟩ <;> rcases g with g | ⟨rfl, g⟩
    · exact .inl (Nat.lt_trans h g)
    · exact .inl h
    · exact .inl g
    · exact .inr ⟨rfl, lexlt_trans h g⟩
  | [], _, _, h, _ => h.elim
  | _ :: _, [], _, h, _ => h.elim
  | _ :: _, _ :: _, [], _, g => g.elim
theorem lexlt_irr : ∀ {a : List Nat}, ¬ lexlt a a
  | x :: a, h => by
    rcases h with h | ⟨_, h⟩
    · exact Nat.lt_irrefl _ h
    · exact lexlt_irr h
  | [], h => h.elim
theorem slt_trans {a b c : List Nat} (h : slt a b) (g : slt b c) : slt a c := by
  rcases h with h | ⟨h1, h2⟩ <;> rcases g with g | ⟨g1, g2⟩
  · exact .inl (Nat.lt_trans h g)
  · exact .inl (by omega)
  · exact .inl (by omega)
  · exact .inr ⟨h1.trans g1, lexlt_trans h2 g2⟩
theorem slt_irr {a : List Nat} : ¬ slt a a := fun h => h.elim (Nat.lt_irrefl _) fun h => lexlt_irr h.2
theorem sle_trans {a b c : List Nat} (h : sle a b) (g : sle b c) : sle a c := by
  rcases h with rfl | h
  · exact g
  · rcases g with rfl | g
    · exact .inr h
    · exact .inr (slt_trans h g)
theorem sle_anti {a b : List Nat} (h : sle a b) (g : sle b a) : a = b := by
  rcases h with rfl | h
  · rfl
  · rcases g with rfl | g
    · rfl
    · exact (slt_irr (slt_trans h g)).elim
theorem lexlt_more : ∀ {a b : List Nat} (i j : Nat), a.length = b.length → lexlt a b → lexlt (a ++ [i]) (b ++ [j])
  | x :: a, y :: b, i, j, hl, h => by
    rcases h with h | ⟨rfl, h⟩
    · exact .inl h
    · exact .inr ⟨rfl, lexlt_more i j (by simpa using hl) h⟩
  | [], _, _, _, _, h => h.elim
  | _ :: _, [], _, _, _, h => h.elim
theorem lexlt_last : ∀ {a : List Nat} {i j : Nat}, i < j → lexlt (a ++ [i]) (a ++ [j])
  | [], _, _, h => .inl h
  | x :: a, _, _, h => .inr ⟨rfl, lexlt_last h⟩
theorem slt_more {a b : List Nat} (i j : Nat) (h : slt a b) : slt (a ++ [i]) (b ++ [j]) := by
  rcases h with h | ⟨h1, h2⟩
  · exact .inl (by simp; exact h)
  · exact .inr ⟨by simp [h1], lexlt_more i j h1 h2⟩
theorem slt_last {a : List Nat} {i j : Nat} (h : i < j) : slt (a ++ [i]) (a ++ [j]) := .inr ⟨by simp, lexlt_last h⟩
theorem sle_snoc {a b : List Nat} (i : Nat) (h : sle a b) : sle (a ++ [i]) (b ++ [i]) := by
  rcases h with rfl | h
  · exact .inl rfl
  · exact .inr (slt_more i i h)
theorem slt_ext {a b : List Nat} (i : Nat) (h : sle a b) : slt a (b ++ [i]) := by
  rcases h with rfl | h
  · exact .inl (by simp)
  · rcases h with h | ⟨h, _⟩
    · exact .inl (by simp; omega)
    · exact .inl (by simp; omega)
theorem slt_nil {a : List Nat} (i : Nat) : slt [] (a ++ [i]) := .inl (by simp)
/-! ### the going -/
abbrev Its := List (Nat × List Nat)
def addW (w : List Nat) (sh : Its) (gi : Nat × Nat) : Its := if gi.1 ∈ sh.map (·.1) then sh else sh ++ [(gi.1, w ++ [gi.2])]
def turnW (st : List (List Nat)) (sh : Its) (p : Nat) : Its := ((st.getD (sh.getD p (0, [])).1 []).zipIdx).foldl (addW (sh.getD p (0, [])).2) sh
def itW (st : List (List Nat)) (b : Nat) : Nat → Its
  | 0 => [(b, [])]
  | p + 1 => turnW st (itW st b p) p
def LiveW (st : List (List Nat)) (b p : Nat) : Prop := ∀ q, q < p → q < (itW st b q).length
/-- what holds within a turn: p is gone through, j of its signs are done -/
structure Going (st : List (List Nat)) (n k b : Nat) (p j : Nat) (sh : Its) : Prop where
  hd : sh[0]? = some (b, [])
  ok : ∀ (r : Nat) x, sh[r]? = some x → x.1 < n ∧ (∀ i ∈ x.2, i < k) ∧ rn st b x.2 = x.1
  ord : ∀ (q r : Nat) x y, q < r → sh[q]? = some x → sh[r]? = some y → slt x.2 y.2
  nd : (sh.map (·.1)).Nodup
  from_ : ∀ (r : Nat) x, sh[r]? = some x → x.2 = [] ∨ ∃ (q : Nat) (y : Nat × List Nat) (i : Nat), sh[q]? = some y ∧ x.2 = y.2 ++ [i] ∧ (q < p ∨ (q = p ∧ i < j))
  cov : ∀ (q : Nat) y i, sh[q]? = some y → i < k → (q < p ∨ (q = p ∧ i < j)) → ∃ (r : Nat) (x : Nat × List Nat), sh[r]? = some x ∧ x.1 = nx st y.1 i ∧ sle x.2 (y.2 ++ [i])
section
variable {st : List (List Nat)} {n k b : Nat}
theorem going0 (hb : b < n) : Going st n k b 0 0 (itW st b 0) := by
  have one : ∀ (r : Nat) x, ([(b, [])] : Its)[r]? = some x → r = 0 ∧ x = (b, []) := fun r x h => by
    cases r with
    | zero => exact ⟨rfl, (Option.some.inj h).symm⟩
    | succ r => simp at h
  refine ⟨rfl, fun r x h => ?_, fun q r x y hq h1 h2 => ?_, by simp [itW], fun r x h => ?_, fun q y i _ _ h => by omega⟩
  · obtain ⟨_, rfl⟩ := one r x h
    exact ⟨hb, (fun i z => nomatch z), rfl⟩
  · have := (one r y h2).1
    omega
  · obtain ⟨_, rfl⟩ := one r x h
    exact .inl rfl
/-- one sign more -/
theorem going_add (T : Tab st n k) {p j : Nat} {sh : Its} (G : Going st n k b p j sh) {s : Nat} {w : List Nat} (hp : sh[p]? = some (s, w)) (hj : j < k) : Going st n k b p (j + 1) (addW w sh (nx st s j, j)) ∧ sh <+: addW w sh (nx st s j, j) := by
  have hs := (G.ok p _ hp).1
  have hw := (G.ok p _ hp).2.1
  have hr := (G.ok p _ hp).2.2
  have hg := T.nx hs hj
  unfold addW
  by_cases h : nx st s j ∈ sh.map (·.1)
  · rw [if_pos h]
    refine ⟨⟨G.hd, G.ok, G.ord, G.nd, fun r x hx => ?_, fun q y i hq hi hc => ?_⟩, List.prefix_refl _⟩
    · rcases G.from_ r x hx with z | ⟨q, y, i, h1, h2, h3⟩
      · exact .inl z
      · exact .inr ⟨q, y, i, h1, h2, by omega⟩
    · by_cases c : q < p ∨ (q = p ∧ i < j)
      · exact G.cov q y i hq hi c
      · obtain ⟨rfl, rfl⟩ : q = p ∧ i = j := by omega
        rw [hp] at hq
        cases hq
        obtain ⟨x, hx, e⟩ := List.mem_map.mp h
        obtain ⟨r, hr2⟩ := List.mem_iff_getElem?.mp hx
        refine ⟨r, x, hr2, e, ?_⟩
        -- what stands already is ahead
        rcases G.from_ r x hr2 with z | ⟨q', y, i', h1, h2, h3⟩
        · exact .inr (by rw [z]; exact slt_nil _)
        · rw [h2]
          rcases h3 with h3 | ⟨rfl, h3⟩
          · exact .inr (slt_more _ _ (G.ord q' q y _ h3 h1 hp))
          · rw [hp] at h1
            cases h1
            exact .inr (slt_last h3)
  · rw [if_neg h]
    have at_ : ∀ (r : Nat) x, (sh ++ [(nx st s j, w ++ [j])])[r]? = some x → (r < sh.length ∧ sh[r]? = some x) ∨ (r = sh.length ∧ x = (nx st s j, w ++ [j])) := fun r x hx => by
      by_cases c : r < sh.length
      · rw [List.getElem?_append_left c] at hx
        exact .inl ⟨c, hx⟩
      · rw [List.getElem?_append_right (by omega)] at hx
        by_cases e : r = sh.length
        · subst e
          simp at hx
          exact .inr ⟨rfl, hx.symm⟩
        · rw [List.getElem?_eq_none (by simp; omega)] at hx
          cases hx
    have old : ∀ (r : Nat) x, sh[r]? = some x → (sh ++ [(nx st s j, w ++ [j])])[r]? = some x := fun r x hx => by
      rw [List.getElem?_append_left (List.getElem?_eq_some_iff.mp hx).1]
      exact hx
    have new : (sh ++ [(nx st s j, w ++ [j])])[sh.length]? = some (nx st s j, w ++ [j]) := by simp
    have ahead : ∀ (r : Nat) x, sh[r]? = some x → slt x.2 (w ++ [j]) := fun r x hx => by
      rcases G.from_ r x hx with z | ⟨q', y, i', h1, h2, h3⟩
      · rw [z]; exact slt_nil _
      · rw [h2]
        rcases h3 with h3 | ⟨rfl, h3⟩
        · exact slt_more _ _ (G.ord q' p y _ h3 h1 hp)
        · rw [hp] at h1
          cases h1
          exact slt_last h3
    refine ⟨⟨old _ _ G.hd, fun r x hx => ?_, fun q r x y hq h1 h2 => ?_, ?_, fun r x hx => ?_, fun q y i hq hi hc => ?_⟩, List.prefix_append _ _⟩
    · rcases at_ r x hx with ⟨_, z⟩ | ⟨_, rfl⟩
      · exact G.ok r x z
      · refine ⟨hg, fun i hi => ?_, by rw [rn_app, hr]; rfl⟩
        rcases List.mem_append.mp hi with z | z
        · exact hw i z
        · rw [List.mem_singleton.mp z]; exact hj
    · rcases at_ r y h2 with ⟨c, z⟩ | ⟨rfl, rfl⟩
      · rcases at_ q x h1 with ⟨_, z1⟩ | ⟨e, _⟩
        · exact G.ord q r x y hq z1 z
        · omega
      · rcases at_ q x h1 with ⟨_, z1⟩ | ⟨e, _⟩
        · exact ahead q x z1
        · omega
    · rw [List.map_append]
      refine List.nodup_append.mpr ⟨G.nd, by simp, fun a ha c hc => ?_⟩
      rw [List.map_cons, List.map_nil, List.mem_singleton] at hc
      rw [hc]
      rintro rfl
      exact h ha
    · rcases at_ r x hx with ⟨_, z⟩ | ⟨_, rfl⟩
      · rcases G.from_ r x z with z | ⟨q, y, i, h1, h2, h3⟩
        · exact .inl z
        · exact .inr ⟨q, y, i, old q y h1, h2, by omega⟩
      · exact .inr ⟨p, (s, w), j, old p _ hp, rfl, .inr ⟨rfl, Nat.lt_succ_self _⟩⟩
    · rcases at_ q y hq with ⟨_, z⟩ | ⟨e, _⟩
      · by_cases c : q < p ∨ (q = p ∧ i < j)
        · obtain ⟨r, x, h1, h2, h3⟩ := G.cov q y i z hi c
          exact ⟨r, x, old r x h1, h2, h3⟩
        · obtain ⟨rfl, rfl⟩ : q = p ∧ i = j := by omega
          rw [hp] at z
          cases z
          exact ⟨sh.length, _, new, rfl, .inl rfl⟩
      · have := (List.getElem?_eq_some_iff.mp hp).1
        omega
/-- the signs of one turn -/
theorem going_fold (T : Tab st n k) {p : Nat} {s : Nat} {w r : List Nat} (hs : st[s]? = some r) (hk : r.length = k) : ∀ (d j : Nat) {sh : Its}, j + d = k → Going st n k b p j sh → sh[p]? = some (s, w) →
    Going st n k b p k (((r.drop j).zipIdx j).foldl (addW w) sh) ∧ sh <+: ((r.drop j).zipIdx j).foldl (addW w) sh
  | 0, j, sh, hd, G, _ => by
    rw [List.drop_eq_nil_of_le (by omega)]
    have : j = k := by omega
    subst this
    exact ⟨G, List.prefix_refl _⟩
  | d + 1, j, sh, hd, G, hp => by
    have hj : j < r.length := by omega
    rw [List.drop_eq_getElem_cons hj, List.zipIdx_cons, List.foldl_cons]
    have e : r[j] = nx st s j := by
      unfold nx
      simp [List.getD_eq_getElem?_getD, hs, List.getElem?_eq_getElem hj]
    rw [e]
    obtain ⟨G1, P1⟩ := going_add T G hp (by omega)
    have hp1 : (addW w sh (nx st s j, j))[p]? = some (s, w) := by
      obtain ⟨t, ht⟩ := P1
      rw [← ht, List.getElem?_append_left (List.getElem?_eq_some_iff.mp hp).1]
      exact hp
    obtain ⟨G2, P2⟩ := going_fold T hs hk d (j + 1) (by omega) G1 hp1
    exact ⟨G2, P1.trans P2⟩
theorem going_next {p : Nat} {sh : Its} (G : Going st n k b p k sh) : Going st n k b (p + 1) 0 sh :=
  ⟨G.hd, G.ok, G.ord, G.nd, fun r x hx => by
    rcases G.from_ r x hx with z | ⟨q, y, i, h1, h2, h3⟩
    · exact .inl z
    · exact .inr ⟨q, y, i, h1, h2, by omega⟩, fun q y i hq hi hc => G.cov q y i hq hi (by omega)⟩
theorem going_turn (T : Tab st n k) {p : Nat} {sh : Its} (G : Going st n k b p 0 sh) (hp : p < sh.length) : Going st n k b (p + 1) 0 (turnW st sh p) ∧ sh <+: turnW st sh p := by
  have hp' := List.getElem?_eq_getElem hp
  have hs := (G.ok p _ hp').1
  obtain ⟨r, e, h1, _⟩ := T.row _ hs
  have eg : sh.getD p (0, []) = sh[p] := by simp [List.getD_eq_getElem?_getD, hp']
  have er : st.getD sh[p].1 [] = r := by simp [List.getD_eq_getElem?_getD, e]
  unfold turnW
  rw [eg, er]
  obtain ⟨a, c⟩ := going_fold T (w := sh[p].2) e h1 k 0 (by omega) G hp'
  exact ⟨going_next a, c⟩
theorem itW_going (T : Tab st n k) (hb : b < n) : ∀ p, LiveW st b p → Going st n k b p 0 (itW st b p)
  | 0, _ => going0 hb
  | p + 1, h => (going_turn T (itW_going T hb p fun q hq => h q (by omega)) (h p (by omega))).1
theorem itW_pre (T : Tab st n k) (hb : b < n) {p : Nat} (h : LiveW st b (p + 1)) : itW st b p <+: itW st b (p + 1) := (going_turn T (itW_going T hb p fun q hq => h q (by omega)) (h p (by omega))).2
theorem itW_len (T : Tab st n k) (hb : b < n) {p : Nat} (h : LiveW st b p) : (itW st b p).length ≤ n := by
  have G := itW_going T hb p h
  have := sub_len (b := List.range n) G.nd fun x hx => by
    obtain ⟨y, hy, rfl⟩ := List.mem_map.mp hx
    obtain ⟨r, hr⟩ := List.mem_iff_getElem?.mp hy
    exact List.mem_range.mpr (G.ok r y hr).1
  rwa [List.length_map, List.length_range] at this
/-! ### the least row at whose end stands something that parts -/
/-- the outcome of the going: the first stand of which bad holds, or none -/
inductive First (st : List (List Nat)) (b : Nat) (bad : Nat → Prop) : Option (List Nat) → Prop
  | found {p s : Nat} {w : List Nat} (L : LiveW st b p) (no : ∀ q x, q < p → (itW st b p)[q]? = some x → ¬ bad x.1) (h : (itW st b p)[p]? = some (s, w)) (hb : bad s) : First st b bad (some w)
  | noone {p : Nat} (L : LiveW st b p) (no : ∀ q x, q < p → (itW st b p)[q]? = some x → ¬ bad x.1) (h : (itW st b p).length ≤ p) : First st b bad none
theorem first_comes (T : Tab st n k) (hb : b < n) {p : Nat} (L : LiveW st b p) {w' : List Nat} (hw : ∀ (r : Nat) x, p ≤ r → (itW st b p)[r]? = some x → sle w' x.2) : ∀ d (v : List Nat), v.length = d → (∀ i ∈ v, i < k) → (∃ (r : Nat) (x : Nat × List Nat), r < p ∧ (itW st b p)[r]? = some x ∧ x.1 = rn st b v ∧ sle x.2 v) ∨ sle w' v
  | 0, v, hl, hv => by
    obtain rfl : v = [] := List.length_eq_zero_iff.mp hl
    have G := itW_going T hb p L
    by_cases h : 0 < p
    · exact .inl ⟨0, _, h, G.hd, rfl, .inl rfl⟩
    · exact .inr (hw 0 _ (by omega) G.hd)
  | d + 1, v, hl, hv => by
    have hne : v ≠ [] := fun z => by rw [z] at hl; simp at hl
    obtain ⟨u, i, rfl⟩ : ∃ u i, v = u ++ [i] := ⟨v.dropLast, v.getLast hne, (List.dropLast_concat_getLast hne).symm⟩
    have hi := hv i (by simp)
    have G := itW_going T hb p L
    rcases first_comes T hb L hw d u (by simpa using hl) fun j hj => hv j (by simp [hj]) with ⟨r, x, h1, h2, h3, h4⟩ | h
    · obtain ⟨r', x', a1, a2, a3⟩ := G.cov r x i h2 hi (.inl h1)
      have a4 : sle x'.2 (u ++ [i]) := sle_trans a3 (sle_snoc i h4)
      by_cases c : r' < p
      · exact .inl ⟨r', x', c, a1, by rw [a2, h3, rn_app]; rfl, a4⟩
      · exact .inr (sle_trans (hw r' x' (by omega) a1) a4)
    · exact .inr (.inr (slt_ext i h))
theorem First.some_ (T : Tab st n k) (hb : b < n) {bad : Nat → Prop} {w : List Nat} (h : First st b bad (some w)) : bad (rn st b w) ∧ (∀ i ∈ w, i < k) ∧ ∀ v : List Nat, (∀ i ∈ v, i < k) → bad (rn st b v) → sle w v := by
  cases h with
  | @found p s w L no h hs =>
    have G := itW_going T hb p L
    have h0 := G.ok p _ h
    refine ⟨by rw [h0.2.2]; exact hs, h0.2.1, fun v hv hbv => ?_⟩
    have hw : ∀ (r : Nat) x, p ≤ r → (itW st b p)[r]? = some x → sle w x.2 := fun r x hr hx => by
      by_cases e : r = p
      · subst e
        rw [h] at hx
        cases hx
        exact .inl rfl
      · exact .inr (G.ord p r _ x (by omega) h hx)
    rcases first_comes T hb L hw _ v rfl hv with ⟨r, x, h1, h2, h3, _⟩ | z
    · exact (no r x h1 h2 (by rw [h3]; exact hbv)).elim
    · exact z
theorem First.none_ (T : Tab st n k) (hb : b < n) {bad : Nat → Prop} (h : First st b bad none) : ∀ v : List Nat, (∀ i ∈ v, i < k) → ¬ bad (rn st b v) := by
  cases h with
  | @noone p L no hp =>
    intro v hv hbv
    have key := first_comes T hb L (w' := v ++ [0]) (fun r x hr hx => by have := (List.getElem?_eq_some_iff.mp hx).1; omega) _ v rfl hv
    rcases key with ⟨r, x, h1, h2, h3, _⟩ | z
    · exact no r x h1 h2 (by rw [h3]; exact hbv)
    · exact slt_irr (by
        have := slt_ext 0 (.inl rfl : sle v v)
        rcases z with z | z
        · rw [z] at this
          exact this
        · exact slt_trans this z : slt v v)
theorem First.eq (T : Tab st n k) (hb : b < n) {bad : Nat → Prop} {o1 o2 : Option (List Nat)} (h1 : First st b bad o1) (h2 : First st b bad o2) : o1 = o2 := by
  cases o1 with
  | none =>
    cases o2 with
    | none => rfl
    | some w => exact (h1.none_ T hb w (h2.some_ T hb).2.1 (h2.some_ T hb).1).elim
  | some w =>
    cases o2 with
    | none => exact (h2.none_ T hb w (h1.some_ T hb).2.1 (h1.some_ T hb).1).elim
    | some v =>
      obtain ⟨a1, a2, a3⟩ := h1.some_ T hb
      obtain ⟨c1, c2, c3⟩ := h2.some_ T hb
      rw [sle_anti (a3 v c2 c1) (c3 w a2 a1)]
end
end PM

set_option Elab.async false
set_option linter.all false
set_option maxRecDepth 100000
/-! Dicts of one's own, told by lists of numbers; a slot frozen ahead of a statement. -/
namespace PL
open PySem PySem.Spec L2 PM
/-! ### a slot frozen -/
def sFrz (i : Nat) (t : QS) (DP : PEnds) (ρ : Env) : Prop := match ρ[i]? with
  | some (.l ds) => t DP (ρ.set i (.d (.list ds)))
  | _ => t DP ρ
theorem s_frz {X : Cx} {B : Box} {st : Stmt} {t : QS} (i : Nat) (h : PS X st (liftS X.K B t)) : PS X st (liftS X.K B (sFrz i t)) :=
  weakS h fun D σ H ⟨G, F, ρ, DP, k, h, en⟩ => by
    unfold sFrz at h
    split at h
    · rename_i ds e
      obtain ⟨F', v, e0, k', e1, r⟩ := k.2.frzL k.1 e
      exact ⟨G, F', ρ.set i (.d (.list ds)), DP, ⟨mem_set_still k.1 trivial, k'⟩, h, en.mono e0⟩
    · exact ⟨G, F, ρ, DP, k, h, en⟩
/-! ### keys that are rows of numbers, told by place -/
def keyN (r : List Nat) : List Key := r.map fun n => .inl ((n : Nat) : Int)
theorem keyN_inj {a b : List Nat} (h : keyN a = keyN b) : a = b := by
  have : (keyN a).map (fun k => match k with | .inl i => i.toNat | .inr _ => 0) = (keyN b).map (fun k => match k with | .inl i => i.toNat | .inr _ => 0) := by rw [h]
  simpa [keyN, List.map_map, Function.comp_def] using this
theorem keysOf_keyN (ns : List Nat) : keysOf (.tuple (nats ns)) = some (keyN ns) := keysOf_nats ns
def kdFrom : Nat → List (List Nat) → List (List Key × D)
  | _, [] => []
  | i, r :: rs => (keyN r, .int (i : Nat)) :: kdFrom (i + 1) rs
def kdict (kn : List (List Nat)) : List (List Key × D) := kdFrom 0 kn
theorem kdFrom_len : ∀ (kn : List (List Nat)) (i : Nat), (kdFrom i kn).length = kn.length
  | [], _ => rfl
  | _ :: rs, i => congrArg (· + 1) (kdFrom_len rs (i + 1))
theorem kdict_len (kn : List (List Nat)) : (kdict kn).length = kn.length := kdFrom_len kn 0
theorem ixOf_ne {α : Type} [DecidableEq α] {c x : α} {l : List α} (h : ¬ x = c) : ixOf c (x :: l) = (ixOf c l).map (· + 1) := if_neg h
theorem kdFrom_val (r : List Nat) : ∀ (kn : List (List Nat)) (i : Nat), valD (kdFrom i kn) (keyN r) = (ixOf r kn).map fun j => .int ((i + j : Nat) : Int)
  | [], i => rfl
  | x :: kn, i => by
    unfold kdFrom valD
    have ih := kdFrom_val r kn (i + 1)
    unfold valD at ih
    by_cases e : x = r
    · subst e
      simp [ixOf]
    · have e2 : ¬ keyN x = keyN r := fun z => e (keyN_inj z)
      rw [List.find?_cons_of_neg (by simpa using e2), ih, ixOf_ne e]
      cases ixOf r kn with
      | none => rfl
      | some j =>
        rw [Option.map_some, Option.map_some, Option.map_some, show i + 1 + j = i + (j + 1) by omega]
theorem kdict_val (r : List Nat) (kn : List (List Nat)) : valD (kdict kn) (keyN r) = (ixOf r kn).map fun j => .int (j : Nat) := by
  have := kdFrom_val r kn 0
  simp only [Nat.zero_add] at this
  exact this
theorem any_val {κ : Type} [DecidableEq κ] (k : κ) : ∀ kds : List (κ × D), (kds.any fun kv => decide (kv.1 = k)) = (valD kds k).isSome
  | [] => rfl
  | x :: kds => by
    have ih := any_val k kds
    unfold valD at ih ⊢
    by_cases e : x.1 = k
    · simp [e]
    · simp [e] at ih ⊢
      rw [← ih]
theorem putD_new {κ : Type} [DecidableEq κ] {kds : List (κ × D)} {k : κ} {d : D} (h : valD kds k = none) : putD kds k d = kds ++ [(k, d)] := by
  unfold putD
  rw [any_val, h]
  rfl
theorem putD_same {κ : Type} [DecidableEq κ] {k : κ} {d : D} : ∀ {kds : List (κ × D)}, (kds.map (·.1)).Nodup → valD kds k = some d → putD kds k d = kds := by
  intro kds nd h
  unfold putD
  rw [any_val, h]
  simp only [Option.isSome_some, if_true]
  induction kds with
  | nil => rfl
  | cons x kds ih =>
    have hn := List.nodup_cons.mp nd
    by_cases e : x.1 = k
    · have e2 : x.2 = d := by simpa [valD, e] using h
      have e3 : kds.map (fun kv => if kv.1 = k then (kv.1, d) else kv) = kds := by
        conv => rhs; rw [← List.map_id kds]
        refine List.map_congr_left fun y hy => ?_
        rw [if_neg (fun z => hn.1 (by show x.1 ∈ _; rw [e, ← z]; exact List.mem_map.mpr ⟨y, hy, rfl⟩))]
        rfl
      rw [List.map_cons, if_pos e, e3, ← e2]
    · rw [List.map_cons, if_neg e, ih hn.2 (by simpa [valD, e] using h)]
theorem kdFrom_app (r : List Nat) : ∀ (kn : List (List Nat)) (i : Nat), kdFrom i (kn ++ [r]) = kdFrom i kn ++ [(keyN r, .int ((i + kn.length : Nat) : Int))]
  | [], i => by simp [kdFrom]
  | x :: kn, i => by
    show (keyN x, _) :: kdFrom (i + 1) (kn ++ [r]) = _
    rw [kdFrom_app r kn (i + 1)]
    simp only [kdFrom, List.length_cons, List.cons_append]
    congr 5
    omega
theorem kdict_app (r : List Nat) (kn : List (List Nat)) : kdict (kn ++ [r]) = kdict kn ++ [(keyN r, .int (kn.length : Nat))] := by
  have := kdFrom_app r kn 0
  simpa [kdict] using this
theorem kdFrom_keys : ∀ (kn : List (List Nat)) (i : Nat), (kdFrom i kn).map (·.1) = kn.map keyN
  | [], _ => rfl
  | x :: kn, i => by simp [kdFrom, kdFrom_keys kn (i + 1)]
theorem kdict_nodup {kn : List (List Nat)} (h : kn.Nodup) : ((kdict kn).map (·.1)).Nodup := by
  unfold kdict
  rw [kdFrom_keys]
  exact List.pairwise_map.mpr (h.imp fun h z => h (keyN_inj z))
theorem ixOf_noneL {α : Type} [DecidableEq α] {c : α} : ∀ {l : List α}, ixOf c l = none ↔ c ∉ l
  | [] => by simp [ixOf]
  | x :: l => by
    unfold ixOf
    by_cases e : x = c
    · simp [e]
    · have ih := ixOf_noneL (c := c) (l := l)
      simp [e, ih, Ne.symm e]
theorem ixOf_appL {α : Type} [DecidableEq α] {c : α} : ∀ {l t : List α} {i : Nat}, ixOf c l = some i → ixOf c (l ++ t) = some i
  | x :: l, t, i, h => by
    unfold ixOf at h
    show (if x = c then some 0 else (ixOf c (l ++ t)).map (· + 1)) = some i
    by_cases e : x = c
    · rw [if_pos e] at h ⊢
      exact h
    · rw [if_neg e] at h ⊢
      cases q : ixOf c l with
      | none => rw [q] at h; cases h
      | some j =>
        rw [q] at h
        rw [ixOf_appL q]
        exact h
  | [], _, _, h => by cases h
theorem ixOf_last {α : Type} [DecidableEq α] {c : α} : ∀ {l : List α}, c ∉ l → ixOf c (l ++ [c]) = some l.length
  | [], _ => by simp [ixOf]
  | x :: l, h => by
    have e : ¬ x = c := fun z => h (by rw [z]; exact List.mem_cons_self)
    show (if x = c then some 0 else (ixOf c (l ++ [c])).map (· + 1)) = _
    rw [if_neg e, ixOf_last fun z => h (List.mem_cons_of_mem _ z)]
    rfl
/-! ### keys that are numbers, each with its head -/
def hdict (f : Nat → Nat) (sh : List Nat) : List (Key × D) := sh.map fun s => (.inl ((f s : Nat) : Int), .int (s : Nat))
theorem hdict_len (f : Nat → Nat) (sh : List Nat) : (hdict f sh).length = sh.length := by simp [hdict]
theorem hdict_val (f : Nat → Nat) (c : Nat) : ∀ sh : List Nat, valD (hdict f sh) (.inl ((c : Nat) : Int)) = (ixOf c (sh.map f)).map fun i => .int ((sh.getD i 0 : Nat) : Int)
  | [] => rfl
  | s :: sh => by
    have ih := hdict_val f c sh
    unfold hdict valD at ih ⊢
    by_cases e : f s = c
    · simp [ixOf, e]
    · have e2 : ¬ (Sum.inl ((f s : Nat) : Int) : Key) = .inl ((c : Nat) : Int) := fun z => e (by injection z with z; omega)
      rw [List.map_cons, List.find?_cons_of_neg (by simpa using e2), ih, List.map_cons, ixOf_ne e]
      cases ixOf c (sh.map f) with
      | none => rfl
      | some i => simp
theorem hdict_app (f : Nat → Nat) (sh : List Nat) (s : Nat) : hdict f (sh ++ [s]) = hdict f sh ++ [(.inl ((f s : Nat) : Int), .int (s : Nat))] := by simp [hdict]
theorem mergeD_one (k : Key) (d : D) : mergeD [] [(k, d)] = [(k, d)] := by simp [mergeD, putD]
end PL

set_option Elab.async false
set_option linter.all false
set_option maxRecDepth 100000
/-! Slices of rows, sorted numbers, lists that are empty. -/
namespace PL
open PySem PySem.Spec L2 PM
theorem cutD_to (ds : List D) (k : Nat) : cutD ds none (some ((k : Nat) : Int)) = ds.take k := by
  unfold cutD
  rw [HT.sIx_nat, HT.sIx_none, List.drop_zero, Nat.sub_zero]
  by_cases h : k ≤ ds.length
  · rw [Nat.min_eq_left h]
  · rw [Nat.min_eq_right (by omega), List.take_length, List.take_of_length_le (by omega)]
theorem cutD_from (ds : List D) {k : Nat} (h : k ≤ ds.length) : cutD ds (some ((k : Nat) : Int)) none = ds.drop k := by
  unfold cutD
  rw [HT.sIx_nat, HT.sIx_none, Nat.min_eq_left h, List.take_of_length_le]
  rw [List.length_drop]
  omega
theorem nats_take (l : List Nat) (k : Nat) : (nats l).take k = nats (l.take k) := by simp [nats]
theorem nats_drop (l : List Nat) (k : Nat) : (nats l).drop k = nats (l.drop k) := by simp [nats]
theorem nats_app (a b : List Nat) : nats a ++ nats b = nats (a ++ b) := by simp [nats]
theorem nats_one (n : Nat) : [PyData.int ((n : Nat) : Int)] = nats [n] := rfl
theorem eqv_nil (l : List Nat) : PyData.eqv (.list (nats l)) (.list []) = decide (l = []) := by
  cases l <;> simp [nats, PyData.eqv, PyData.eqvAll]
theorem pSortedI_nat {Q : T → Prop} (l : List Nat) (q : ∀ l' : List Nat, l'.Perm l → l'.Pairwise (· ≤ ·) → Q (.l (nats l'))) : pSortedI [.list (nats l)] Q := by
  refine ⟨l.map fun n => ((n : Nat) : Int), by simp [nats], fun ns' hp hw => ?_⟩
  have hc : ∀ x ∈ ns', ((x.toNat : Nat) : Int) = x := fun x hx => by
    obtain ⟨n, _, rfl⟩ := List.mem_map.mp (hp.mem_iff.mp hx)
    simp
  have e : (ns'.map Int.toNat).map (fun n => ((n : Nat) : Int)) = ns' := by
    rw [List.map_map]
    conv => rhs; rw [← List.map_id ns']
    exact List.map_congr_left fun x hx => hc x hx
  have e2 : ns'.map PyData.int = nats (ns'.map Int.toNat) := by
    unfold nats
    conv => lhs; rw [← e]
    rw [List.map_map]
    rfl
  rw [e2]
  refine q _ ?_ (List.pairwise_map.mpr (hw.imp fun h => by omega))
  have := hp.map Int.toNat
  simpa [List.map_map, Function.comp_def] using this
theorem seqIx {i n : Nat} (h : i < n) : seqIndex? ((i : Nat) : Int) n = some i := (seqIndex_of (by omega) (by omega)).trans (by simp)
theorem map_erase {α β : Type} (f : α → β) : ∀ (l : List α) (i : Nat), (l.map f).eraseIdx i = (l.eraseIdx i).map f
  | [], _ => rfl
  | _ :: _, 0 => rfl
  | x :: l, i + 1 => by simp [map_erase f l i]
theorem nats_erase (l : List Nat) (i : Nat) : (nats l).eraseIdx i = nats (l.eraseIdx i) := map_erase _ l i
theorem erase_perm {α : Type} : ∀ {l : List α} {i : Nat} (h : i < l.length), (l[i] :: l.eraseIdx i).Perm l
  | _ :: _, 0, _ => List.Perm.refl _
  | x :: l, i + 1, h => (List.Perm.swap x _ _).trans ((erase_perm (l := l) (i := i) (by simpa using h)).cons x)
/-- an if, its test told apart -/
theorem if_any {c : QT} {t u : QS} {DP : PEnds} {ρ : Env} (ρ0 : Env) (C : Bool → Prop) (h1 : ∀ R : Bool → Env → Prop, (∀ b, C b → R b ρ0) → c ρ R) (ht : C true → t DP ρ0) (hu : C false → u DP ρ0) : sIf c t u DP ρ :=
  h1 _ fun b h => by
    cases b
    · exact hu h
    · exact ht h
theorem seq_if {c : QT} {t u : QS} {DP : PEnds} {ρ : Env} (ρ0 : Env) (C : Bool → Prop) (h1 : ∀ R : Bool → Env → Prop, (∀ b, C b → R b ρ0) → c ρ R) (ht : C true → t { DP with nx := u DP } ρ0) (hu : C false → u DP ρ0) : sSeq (sIf c t sNext) u DP ρ :=
  h1 _ fun b h => by
    cases b
    · exact hu h
    · exact ht h
/-- a row with one place changed -/
theorem set_cut (r : List Nat) (k n : Nat) (h : k < r.length) : r.take k ++ [n] ++ r.drop (k + 1) = r.set k n := by
  rw [List.set_eq_take_append_cons_drop, if_pos h]
  simp
end PL

set_option Elab.async false
set_option linter.all false
set_option maxRecDepth 100000
/-! Sets of rows counted; rows of a length. -/
namespace PL
open PySem PySem.Spec L2 PM
theorem pLenSetT_nat {Q : T → Prop} (ks : List (List Nat)) (hl : ks.length < 64) (q : ∀ L : List (List Nat), L.Nodup → (∀ k, k ∈ L ↔ k ∈ ks) → Q (.d (.int (L.length : Nat)))) : pLenSetT (.list (ks.map fun k => .tuple (nats k))) Q := by
  refine ⟨ks.map castL, by rw [List.map_map]; exact List.map_congr_left fun k _ => (tupI_cast k).symm, by simpa using hl, fun L nd hm => ?_⟩
  have hc : ∀ k ∈ L, castL (k.map Int.toNat) = k := fun k h => by
    obtain ⟨n, hn, rfl⟩ := List.mem_map.mp ((hm k).mp h)
    simp [castL, List.map_map, Function.comp_def]
  have e : (L.map fun k => k.map Int.toNat).map castL = L := by
    rw [List.map_map]
    conv => rhs; rw [← List.map_id L]
    exact List.map_congr_left fun k h => hc k h
  have := q (L.map fun k => k.map Int.toNat) ?_ (fun k => ?_)
  · simpa using this
  · rw [← e] at nd
    exact List.pairwise_map.mp nd |>.imp fun h z => h (congrArg castL z)
  · constructor
    · intro h
      have : castL k ∈ L := by rw [← e]; exact List.mem_map.mpr ⟨k, h, rfl⟩
      obtain ⟨n, hn, z⟩ := List.mem_map.mp ((hm _).mp this)
      rw [← castL_inj z]
      exact hn
    · intro h
      have : castL k ∈ L := (hm _).mpr (List.mem_map.mpr ⟨k, h, rfl⟩)
      refine List.mem_map.mpr ⟨_, this, ?_⟩
      simp [castL, List.map_map, Function.comp_def]
theorem seq_toR {t u : QS} {DP : PEnds} {ρ : Env} (I : Env → Prop) (h1 : ∀ N : Env → Prop, (∀ ρ', I ρ' → N ρ') → t { DP with nx := N } ρ) (h2 : ∀ ρ', I ρ' → u DP ρ') : sSeq t u DP ρ := h1 _ h2
theorem len_const {α β : Type} {f : α → List β} {c : Nat} : ∀ {l : List α}, (∀ x, (f x).length = c) → (l.flatMap f).length = l.length * c
  | [], _ => by simp
  | x :: l, h => by
    rw [List.flatMap_cons, List.length_append, h x, len_const h, List.length_cons, Nat.add_mul]
    omega
theorem words_len {k : Nat} (h : k ≤ 2) : ∀ t, (words k t).length ≤ 2 ^ t
  | 0 => by simp [words]
  | t + 1 => by
    unfold words
    rw [len_const (c := k) fun x => by simp]
    have ih := words_len h t
    have := Nat.mul_le_mul ih h
    rw [Nat.pow_succ]
    exact this
theorem upto_len {k : Nat} (h : k ≤ 2) : ∀ t, ((List.range (t + 1)).flatMap (words k)).length < 2 ^ (t + 1)
  | 0 => by simp [words]
  | t + 1 => by
    have ih := upto_len h t
    have h2 := words_len h (t + 1)
    rw [List.range_succ, List.flatMap_append, List.length_append]
    simp only [List.flatMap_cons, List.flatMap_nil, List.append_nil]
    rw [Nat.pow_succ 2 (t + 1)]
    omega
/-- as many as there are, if they differ -/
theorem len_inj {L ks : List (List Nat)} (nd : L.Nodup) (hm : ∀ k, k ∈ L ↔ k ∈ ks) (nk : ks.Nodup) : L.length = ks.length :=
  Nat.le_antisymm (sub_len nd fun x hx => (hm x).mp hx) (sub_len nk fun x hx => (hm x).mpr hx)
end PL

set_option Elab.async false
set_option linter.all false
set_option maxRecDepth 100000
/-! PE, part 0: an own exception whose __init__ hands a text to super().__init__, and may keep one field. -/
namespace PL
open PySem PySem.Spec L2
open PyProof.Rows
abbrev veMro : List Value := [.type "ValueError", .type "Exception", .type "BaseException", .type "object"]
/-- what the written part says of such a class -/
structure SupC (P : Program) (K : PySem.W.Frag) (C fI : Addr) (qual : Str) (params : Arguments) (body : List Stmt) (scope : Scope) : Prop where
  ex : PySem.W.excInitIn K C veMro "ValueError.__new__" = true
  iC : PySem.W.findIn K (.ref C) "__init__" = some (some (.ref fI))
  tI : PySem.W.typeIn K (.ref fI) = some (.type "function")
  kC : PySem.W.keepIn K (.ref C) = true
  cd : ∃ cdD, PySem.W.clsIn K C = some cdD
  sub : PySem.W.mroIn K C (.ref C) = some true
  sup : PySem.W.ks_superIn K C C "__init__" = some (some (.builtin "ValueError.__init__"))
  subV : PySem.W.subIn K (.ref C) (.type "ValueError") = some true
  exC : PySem.W.subIn K (.ref C) (.type "BaseException") = some true
  tyC : PySem.W.typeIn K (.ref C) = some (.type "type")
  tp : PySem.W.nsIn K cStatics "thirdparty.any" = some none
  su : PySem.W.nsIn K mainGlobals "super" = some none
  top : (P.main.scope.names.lookup ("super" : Str)).isSome = false
  fn : ∃ (oc kV doc pm ct ccl cl : Value) (od an cdd cld : Option Addr) (osl ccs csl : Array (Option Value)) (cda cc : Addr) (vs : Array Value) (file : Str) (tf : Tok),
    K.lookup fI = some ⟨oc, od, .func (PySem.W.ksFn "__init__" qual params body scope .none kV doc pm an (.ref cda) ct cc), osl⟩ ∧ PySem.W.codeIn K (.ref cda) qual = true ∧
    K.lookup cda = some ⟨ccl, cdd, .fields vs, ccs⟩ ∧ vs[2]? = some (.str file tf) ∧ ((P.main.file : Str) == file) = true ∧
    K.lookup cc = some ⟨cl, cld, .cell (some (.ref C)), csl⟩
/-- how a method call is read -/
def MCall (o : Expr) (name : Str) (p2 : Pos) (args : List Expr) (p4 : Pos) (env : PySem.Env) : Prop := ∃ pl : Sem Bool, eval (.Call (.Attribute o name p2) args [] p4) env = (do
  let ov ← attributeBase o name env (eval o env)
  standAt p2.atName
  let (f, first) ← holding [ov] (getMethod ov name pl)
  callWith p4 f first (backTo p4 (starEach args env)) [])
/-- the scope of such a def -/
structure SupS (ps : List Str) (scope : Scope) : Prop where
  cell : ∀ x ∈ scope.names, x.2 ≠ .cell
  loc : ∀ x ∈ ps, scope.names.lookup x = some .local
  su : scope.names.lookup ("super" : Str) = some .globalImplicit
  cl : scope.names.lookup ("__class__" : Str) = some .free
  co : scope.isCoroutine = false
  gen : scope.isGenerator = false
  kind : scope.kind = .function
  ia : ∀ (q : Str) (L f : Addr) (cd : Value) (cc : Addr), interactive (PySem.W.ksEnv q scope L f cd cc) = false
section
variable {P : Program} {w : World} {K : PySem.W.Frag} {mg mb : Str → Option Value} {A : Around} {s : Shared} {h₀ : Heap} {C fI e t : Addr} {qual : Str} {params : Arguments} {body : List Stmt} {scope : Scope} {R : Result → Shared → Prop}
theorem lookup_local {scope : Scope} {names : List Str} {m : Str → Option Value} : True := trivial
/-- super().__init__('..') -/
theorem sup_first {L cda cc : Addr} {m : Str → Option Value} {so : Str} {fd : FuncData} {ar : Arg} {oc ccl cl : Value} {od cdd cld : Option Addr} {osl ccs csl : Array (Option Value)} {vs : Array Value} {file : Str} {tf : Tok} {cdD : ClassData}
    {p0 p1 p2 p3 p4 p5 : Pos} {txt : Str} {j : Nat} {Q : Flow → Shared → Prop} {E : Value → Shared → Prop} {bd : List Stmt}
    (F : Fr h₀ L s.heap m) (X₀ : K.In h₀) (hg : h₀.Ns mainGlobals mg) (hb : h₀.Ns builtinsNs mb) (hbb : mb "super" = some (.type "super")) (hmg : mg "super" = none)
    (N : News h₀ L s.heap [(e, PySem.W.excObj C t none .none)]) (S : SupS [ar.arg] scope)
    (hf : K.lookup fI = some ⟨oc, od, .func fd, osl⟩) (hp : (fd.params.posonlyargs ++ fd.params.args).head? = some ar) (hv : m ar.arg = some (.ref e))
    (hcode : K.lookup cda = some ⟨ccl, cdd, .fields vs, ccs⟩) (hvs : vs[2]? = some (.str file tf)) (hfile : ((P.main.file : Str) == file) = true)
    (hcell : K.lookup cc = some ⟨cl, cld, .cell (some (.ref C)), csl⟩) (hD : PySem.W.clsIn K C = some cdD) (hsub : PySem.W.mroIn K C (.ref C) = some true)
    (htop : (P.main.scope.names.lookup ("super" : Str)).isSome = false) (ho : PySem.W.nsIn K cStatics "thirdparty.any" = some none)
    (hsup : PySem.W.ks_superIn K C C "__init__" = some (some (.builtin "ValueError.__init__"))) (hsubV : PySem.W.subIn K (.ref C) (.type "ValueError") = some true) (hex : PySem.W.excInitIn K C veMro "ValueError.__new__" = true)
    (hmc : MCall (.Call (.Name "super" p0) [] [] p1) "__init__" p2 [.Constant (.str txt) j p3] p4 (PySem.W.ksEnv qual scope L fI (.ref cda) cc))
    (h : ∀ h' t' tk, Fr h₀ L h' m → News h₀ L h' [(e, PySem.W.excObj C t' none .none)] → Q .next { s with heap := h', toks := tk }) :
    _root_.PySem.wpAt (model P w) A (.func bd (PySem.W.ksEnv qual scope L fI (.ref cda) cc)) (exec (.Expr (.Call (.Attribute (.Call (.Name "super" p0) [] [] p1) "__init__" p2) [.Constant (.str txt) j p3] [] p4) p5) (PySem.W.ksEnv qual scope L fI (.ref cda) cc)) Q E s := by
  have XK : K.In s.heap := X₀.keeps F.keep
  obtain ⟨pl, hmc⟩ := hmc
  refine ks_wpAt_Expr_any (ks_wpAt_MethodCall (pl := pl) ?_ hmc) (S.ia _ _ _ _ _)
  refine ks_wpAt_super_base (env := PySem.W.ksEnv qual scope L fI (.ref cda) cc) S.su S.cl (by decide) rfl (XK _ _ hf) rfl hp rfl (XK _ _ hcode) rfl hvs hfile htop ?_
  refine PySem.W.ks_loadName_global S.kind S.su (Calls.loadGlobal_builtin (env := PySem.W.ksEnv qual scope L fI (.ref cda) cc) (hg.keeps F.keep) hmg (hb.keeps F.keep) hbb ⟨rfl, ?_⟩)
  refine wpAny_loadName_free S.kind S.cl rfl ⟨_, XK _ _ hcell, rfl⟩ (wpAny_loadName_local S.kind (S.loc _ List.mem_cons_self) F.ns hv ?_)
  obtain ⟨oD, hD1, hD2⟩ : ∃ oD, s.heap.get? C = some oD ∧ oD.data = .cls cdD := by
    unfold PySem.W.clsIn at hD
    split at hD
    · rename_i z
      cases hD
      exact ⟨_, XK _ _ z, rfl⟩
    · cases hD
  have I : PySem.W.InstAt s.heap e (PySem.W.excObj C t none .none) C none := PySem.W.InstAt.of_exc0 N List.mem_cons_self
  have hm1 : (e, PySem.W.excObj C t none .none) ∈ [(e, PySem.W.excObj C t none .none)] := List.mem_cons_self
  obtain ⟨hh, g, d, tt, os⟩ := s
  refine ks_wpAny_isType_cls hD1 hD2 ⟨rfl, ks_wpAny_call_super hD1 hD2 I.at_ I.cls (fun c z => nomatch z) (PySem.W.looks_mroIn XK hsub) fun h' e1 k1 => ?_⟩
  obtain ⟨F1, N1, l1⟩ := PySem.W.ks_newsPush (s := ⟨hh, g, d, tt, os⟩) F N rfl e1 k1
  have I1 : PySem.W.InstAt h' e (PySem.W.excObj C t none .none) C none := PySem.W.InstAt.of_exc0 N1 (.tail _ hm1)
  refine PySem.W.kxs_method (s := ⟨h', g, d, tt, os⟩) PySem.W.kxs_ValueError F1 X₀ N1 List.mem_cons_self I1 ho hsup hsubV (by decide) fun q h2 F2 N2 l2 => ?_
  refine PySem.W.kxs_callWith1 N2 List.mem_cons_self (spliced_more (wpAny_Constant_str (spliced_none ⟨PySem.W.kxs_at N2 List.mem_cons_self, ?_⟩)))
  refine PySem.W.kxs_call F2 X₀ N2 PySem.F.excBase_ValueError hex List.mem_cons_self (PySem.W.UpdF.tail (fun z => ?_) (PySem.W.UpdF.tail (fun z => ?_) (PySem.W.UpdF.head (fun p hp => nomatch hp)))) (by rw [sizeLine_eq]; simp) fun t' h3 F3 N3 l3 => ?_
  · have z2 := l2 _ (.tail _ hm1)
    have z : q = e := z
    rw [z] at z2
    exact absurd z2 (Nat.lt_irrefl _)
  · have z2 := l1 _ hm1
    have z : hh.objs.size = e := z
    have z2 : e < hh.objs.size := z2
    rw [z] at z2
    exact absurd z2 (Nat.lt_irrefl _)
  · refine h h3 t' _ F3 fun p hp => N3 p ?_
    rcases List.mem_cons.mp hp with rfl | hp
    · exact .tail _ (.tail _ (.tail _ List.mem_cons_self))
    · exact nomatch hp
/-- such a def's run: no field -/
theorem sup_run0 {mg mb : Str → Option Value} {p0 p1 p2 p3 p4 p5 : Pos} {txt : Str} {j : Nat} {ar : Arg} {x : Str}
    (T : SupC P K C fI qual params [.Expr (.Call (.Attribute (.Call (.Name "super" p0) [] [] p1) "__init__" p2) [.Constant (.str txt) j p3] [] p4) p5] scope) (S : SupS [x] scope) (hp : (params.posonlyargs ++ params.args).head? = some ar) (hx : ar.arg = x)
    (hbind : ∀ (kV doc pm : Value) (an : Option Addr) (cdv ct : Value) (cc : Addr) (u : Value), bindArgs (PySem.W.ksFn "__init__" qual params [.Expr (.Call (.Attribute (.Call (.Name "super" p0) [] [] p1) "__init__" p2) [.Constant (.str txt) j p3] [] p4) p5] scope .none kV doc pm an cdv ct cc) ⟨[u], []⟩ = pure [(x, u)])
    (hmc : ∀ (L : Addr) (cd : Value) (cc : Addr), MCall (.Call (.Name "super" p0) [] [] p1) "__init__" p2 [.Constant (.str txt) j p3] p4 (PySem.W.ksEnv qual scope L fI cd cc))
    (X₀ : K.In h₀) (hg : h₀.Ns mainGlobals mg) (hb : h₀.Ns builtinsNs mb) (hbb : mb "super" = some (.type "super")) (nl : h₀.NoLimit)
    (hk : ∀ b o, h₀.get? b = some o → s.heap.get? b = some o) (hsz : h₀.objs.size ≤ s.heap.objs.size) (he : s.heap.get? e = some (PySem.W.excObj C t none .none)) (hn : h₀.get? e = none) (hroom : A.depth < recursionLimit)
    (hR : ∀ h' t' tk, (∀ b o, h₀.get? b = some o → h'.get? b = some o) → h'.get? e = some (PySem.W.excObj C t' none .none) → R (.ok (.ret .none)) { s with heap := h', toks := tk }) :
    codeAny (model P w) A (.call (.ref fI) ⟨[.ref e], []⟩) R s := by
  obtain ⟨oc, kV, doc, pm, ct, ccl, cl, od, an, cdd, cld, osl, ccs, csl, cda, cc, vs, file, tf, l1, l2, l3, l4, l5, l6⟩ := T.fn
  obtain ⟨cdD, hcd⟩ := T.cd
  have XK : K.In s.heap := X₀.keeps hk
  subst hx
  refine ks_codeAny_call_defAt (fd := PySem.W.ksFn "__init__" qual params _ scope .none kV doc pm an (.ref cda) ct cc) (binds := [(ar.arg, .ref e)]) hroom (XK _ _ l1) rfl (nl.keeps hk) (PySem.W.codeRec_of XK l2) rfl (BindsTo.of_eq (hbind _ _ _ _ _ _ _ _)) S.cell (fun y hy => ?_) (fun h1 hns hk1 => ?_) S.co S.gen S.kind
  · rcases List.mem_cons.mp hy with rfl | hy
    · exact S.loc _ List.mem_cons_self
    · exact nomatch hy
  · have F : Fr h₀ s.heap.objs.size h1 (fun y => [(ar.arg, Value.ref e)].reverse.lookup y) := ⟨hns, fun b o z => hk1 b o (hk b o z), hsz⟩
    have N : News h₀ s.heap.objs.size h1 [(e, PySem.W.excObj C t none .none)] := fun p hp => by
      rcases List.mem_cons.mp hp with rfl | hp
      · exact ⟨hk1 _ _ he, Nat.ne_of_lt (Heap.lt_size he), hn⟩
      · exact nomatch hp
    refine ks_wpAt_execs_cons (sup_first (qual := qual) (so := "") (E := _) (ar := ar) (s := { s with heap := h1, toks := s.toks + [(ar.arg, Value.ref e)].length }) F X₀ hg hb hbb (PySem.W.mg_none_of X₀ hg T.su) N S l1 hp (by simp) l3 l4 l5 l6 hcd T.sub T.top T.tp T.sup T.subV T.ex (hmc _ _ _) fun h2 t2 tk2 F2 N2 => ?_)
    exact _root_.PySem.wpAt_of_wpAny (wpAny_execs_nil (hR h2 t2 tk2 F2.keep (N2 _ List.mem_cons_self).1))
/-- the class, as the store of a field sees it -/
structure SupF (K : PySem.W.Frag) (C : Addr) (f : Str) : Prop where
  sa : PySem.W.findIn K (.ref C) "__setattr__" = some (some (.builtin "object.__setattr__"))
  no : PySem.W.findIn K (.ref C) f = some none
  cd : ∃ cd, PySem.W.clsIn K C = some cd ∧ PySem.HandSPX.refsVE cd.mro = true ∧ cd.hasDict = true
/-- .. one field, that the argument gives -/
theorem sup_run1 {mg mb : Str → Option Value} {p0 p1 p2 p3 p4 p5 q0 q1 q2 q3 : Pos} {txt : Str} {j : Nat} {ar : Arg} {x f : Str} {v : Value}
    (T : SupC P K C fI qual params [.Expr (.Call (.Attribute (.Call (.Name "super" p0) [] [] p1) "__init__" p2) [.Constant (.str txt) j p3] [] p4) p5, .Assign [.Attribute (.Name x q0) f q1] (.Name f q2) q3] scope) (TF : SupF K C f) (S : SupS [x, f] scope) (hp : (params.posonlyargs ++ params.args).head? = some ar) (hx : ar.arg = x) (hxf : x ≠ f)
    (hbind : ∀ (kV doc pm : Value) (an : Option Addr) (cdv ct : Value) (cc : Addr) (u v : Value), bindArgs (PySem.W.ksFn "__init__" qual params [.Expr (.Call (.Attribute (.Call (.Name "super" p0) [] [] p1) "__init__" p2) [.Constant (.str txt) j p3] [] p4) p5, .Assign [.Attribute (.Name x q0) f q1] (.Name f q2) q3] scope .none kV doc pm an cdv ct cc) ⟨[u, v], []⟩ = pure [(x, u), (f, v)])
    (hmc : ∀ (L : Addr) (cd : Value) (cc : Addr), MCall (.Call (.Name "super" p0) [] [] p1) "__init__" p2 [.Constant (.str txt) j p3] p4 (PySem.W.ksEnv qual scope L fI cd cc))
    (hsw : ∀ (L : Addr) (cd : Value) (cc : Addr), swapsWith (.Name f q2) (some (.Attribute (.Name x q0) f q1)) q3.line (PySem.W.ksEnv qual scope L fI cd cc) = pure false)
    (hd1 : (x == ("__debug__" : Str)) = false) (hd2 : (f == ("__debug__" : Str)) = false)
    (X₀ : K.In h₀) (hg : h₀.Ns mainGlobals mg) (hb : h₀.Ns builtinsNs mb) (hbb : mb "super" = some (.type "super")) (nl : h₀.NoLimit)
    (hk : ∀ b o, h₀.get? b = some o → s.heap.get? b = some o) (hsz : h₀.objs.size ≤ s.heap.objs.size) (he : s.heap.get? e = some (PySem.W.excObj C t none .none)) (hn : h₀.get? e = none) (hroom : A.depth < recursionLimit)
    (hR : ∀ h' t' tk dx, (∀ b o, h₀.get? b = some o → h'.get? b = some o) → h'.get? e = some (PySem.W.excObj C t' (some dx) .none) → h'.Ns1 dx (fun y => if y = f then some v else none) → h₀.objs.size ≤ dx → dx ≠ e → R (.ok (.ret .none)) { s with heap := h', toks := tk }) :
    codeAny (model P w) A (.call (.ref fI) ⟨[.ref e, v], []⟩) R s := by
  obtain ⟨oc, kV, doc, pm, ct, ccl, cl, od, an, cdd, cld, osl, ccs, csl, cda, cc, vs, file, tf, l1, l2, l3, l4, l5, l6⟩ := T.fn
  obtain ⟨cdD, hcd⟩ := T.cd
  have XK : K.In s.heap := X₀.keeps hk
  subst hx
  have Sx : SupS [ar.arg] scope := ⟨S.cell, fun y hy => S.loc y (by rcases List.mem_cons.mp hy with rfl | hy; exact List.mem_cons_self; exact nomatch hy), S.su, S.cl, S.co, S.gen, S.kind, S.ia⟩
  refine ks_codeAny_call_defAt (fd := PySem.W.ksFn "__init__" qual params _ scope .none kV doc pm an (.ref cda) ct cc) (binds := [(ar.arg, .ref e), (f, v)]) hroom (XK _ _ l1) rfl (nl.keeps hk) (PySem.W.codeRec_of XK l2) rfl (BindsTo.of_eq (hbind _ _ _ _ _ _ _ _ _)) S.cell (fun y hy => ?_) (fun h1 hns hk1 => ?_) S.co S.gen S.kind
  · rcases List.mem_cons.mp hy with rfl | hy
    · exact S.loc _ List.mem_cons_self
    · rcases List.mem_cons.mp hy with rfl | hy
      · exact S.loc _ (.tail _ List.mem_cons_self)
      · exact nomatch hy
  · have F : Fr h₀ s.heap.objs.size h1 (fun y => [(ar.arg, Value.ref e), (f, v)].reverse.lookup y) := ⟨hns, fun b o z => hk1 b o (hk b o z), hsz⟩
    have N : News h₀ s.heap.objs.size h1 [(e, PySem.W.excObj C t none .none)] := fun p hp => by
      rcases List.mem_cons.mp hp with rfl | hp
      · exact ⟨hk1 _ _ he, Nat.ne_of_lt (Heap.lt_size he), hn⟩
      · exact nomatch hp
    have hxf' : (ar.arg == f) = false := by simpa using hxf
    have v1 : [(ar.arg, Value.ref e), (f, v)].reverse.lookup ar.arg = some (.ref e) := by simp [List.lookup, hxf']
    have v2 : [(ar.arg, Value.ref e), (f, v)].reverse.lookup f = some v := by simp [List.lookup]
    refine ks_wpAt_execs_cons (sup_first (qual := qual) (so := "") (E := _) (ar := ar) (s := { s with heap := h1, toks := s.toks + [(ar.arg, Value.ref e), (f, v)].length }) F X₀ hg hb hbb (PySem.W.mg_none_of X₀ hg T.su) N Sx l1 hp v1 l3 l4 l5 l6 hcd T.sub T.top T.tp T.sup T.subV T.ex (hmc _ _ _) fun h2 t2 tk2 F2 N2 => ?_)
    refine ks_wpAt_execs_cons (ks_wpAt_Assign_Attr ?_ (hsw _ _ _))
    refine _root_.PySem.wpAt_of_wpAny (wpAny_Name (wpAny_loadName_local S.kind (S.loc _ (.tail _ List.mem_cons_self)) F2.ns v2 (wpAny_Name (wpAny_loadName_local S.kind (S.loc _ List.mem_cons_self) F2.ns v1 ?_) hd1)) hd2)
    have g2 := (N2 _ List.mem_cons_self).1
    obtain ⟨cd, c1, c2, c3⟩ := TF.cd
    have X2 : K.In h2 := X₀.keeps F2.keep
    obtain ⟨hh, g, d, tt, os⟩ := s
    refine PySem.W.set_plain X2 (PySem.W.InstAt.of_exc0 N2 List.mem_cons_self) TF.sa (PySem.HandSPX.exc_osa X2 g2 c1 c2 c3 TF.no fun h3 tk3 dx k3 z1 z2 z3 z4 => ?_)
    refine _root_.PySem.wpAt_of_wpAny (wpAny_execs_nil (hR h3 t2 tk3 dx (fun b o z => k3 b o (fun y => by rw [y, hn] at z; cases z) (F2.keep b o z)) z3 z4 (Nat.le_trans ?_ z1) z2))
    exact Nat.le_trans F2.above (Nat.le_of_lt F2.ns.lt)
end
end PL

set_option Elab.async false
set_option linter.all false
set_option maxRecDepth 100000
/-! PE, part 1: such an exception, made in a def that is walked. -/
namespace PL
open PySem PySem.Spec L2
open PyProof.Rows
inductive Mk0 (P : Program) (K : PySem.W.Frag) (C : Addr) : Prop
  | mk {fI : Addr} {qual : Str} {params : Arguments} {scope : Scope} {p0 p1 p2 p3 p4 p5 : Pos} {txt : Str} {j : Nat} {ar : Arg} {x : Str}
    (T : SupC P K C fI qual params [.Expr (.Call (.Attribute (.Call (.Name "super" p0) [] [] p1) "__init__" p2) [.Constant (.str txt) j p3] [] p4) p5] scope) (S : SupS [x] scope) (hp : (params.posonlyargs ++ params.args).head? = some ar) (hx : ar.arg = x)
    (hbind : ∀ (kV doc pm : Value) (an : Option Addr) (cdv ct : Value) (cc : Addr) (u : Value), bindArgs (PySem.W.ksFn "__init__" qual params [.Expr (.Call (.Attribute (.Call (.Name "super" p0) [] [] p1) "__init__" p2) [.Constant (.str txt) j p3] [] p4) p5] scope .none kV doc pm an cdv ct cc) ⟨[u], []⟩ = pure [(x, u)])
    (hmc : ∀ (L : Addr) (cd : Value) (cc : Addr), MCall (.Call (.Name "super" p0) [] [] p1) "__init__" p2 [.Constant (.str txt) j p3] p4 (PySem.W.ksEnv qual scope L fI cd cc)) : Mk0 P K C
inductive Mk1 (P : Program) (K : PySem.W.Frag) (C : Addr) (f : Str) : Prop
  | mk {fI : Addr} {qual : Str} {params : Arguments} {scope : Scope} {p0 p1 p2 p3 p4 p5 q0 q1 q2 q3 : Pos} {txt : Str} {j : Nat} {ar : Arg} {x : Str}
    (T : SupC P K C fI qual params [.Expr (.Call (.Attribute (.Call (.Name "super" p0) [] [] p1) "__init__" p2) [.Constant (.str txt) j p3] [] p4) p5, .Assign [.Attribute (.Name x q0) f q1] (.Name f q2) q3] scope) (TF : SupF K C f) (S : SupS [x, f] scope) (hp : (params.posonlyargs ++ params.args).head? = some ar) (hx : ar.arg = x) (hxf : x ≠ f)
    (hbind : ∀ (kV doc pm : Value) (an : Option Addr) (cdv ct : Value) (cc : Addr) (u v : Value), bindArgs (PySem.W.ksFn "__init__" qual params [.Expr (.Call (.Attribute (.Call (.Name "super" p0) [] [] p1) "__init__" p2) [.Constant (.str txt) j p3] [] p4) p5, .Assign [.Attribute (.Name x q0) f q1] (.Name f q2) q3] scope .none kV doc pm an cdv ct cc) ⟨[u, v], []⟩ = pure [(x, u), (f, v)])
    (hmc : ∀ (L : Addr) (cd : Value) (cc : Addr), MCall (.Call (.Name "super" p0) [] [] p1) "__init__" p2 [.Constant (.str txt) j p3] p4 (PySem.W.ksEnv qual scope L fI cd cc))
    (hsw : ∀ (L : Addr) (cd : Value) (cc : Addr), swapsWith (.Name f q2) (some (.Attribute (.Name x q0) f q1)) q3.line (PySem.W.ksEnv qual scope L fI cd cc) = pure false)
    (hd1 : (x == ("__debug__" : Str)) = false) (hd2 : (f == ("__debug__" : Str)) = false) : Mk1 P K C f
section
variable {X : Cx} {C : Addr} {nm f : Str} {p pos : Pos}
theorem sup_name : ("super" : Str) ≠ "__name__" := by decide
/-- X() -/
theorem pmk_sup0 (M : Mk0 X.prog X.K C) (hr : Room 1 X.A) (hg : Gl X nm) (hm : X.mg nm = some (.ref C)) (hd : (nm == ("__debug__" : Str)) = false := by decide) : PMk X (.Call (.Name nm p) [] [] pos) (fun _ H Q => Q (.ref C) none H) := by
  intro pins s σ H Q I h
  cases M with
  | mk T S hp hx hbind hmc =>
    obtain ⟨n1, N', qn, bs, bm, hdct, sn, sub, ab, col, dd, k0, k1, k2, k3, k5, hC, hT⟩ := PySem.W.excInit_of I.kIn T.ex
    obtain ⟨mb, hb1, hb2⟩ := I.mod.blt
    refine wpAny_Call_Name_kw (ld_glob I hg hm (PySem.W.callWith_K0 I.kIn T.kC ?_) hd)
    have hglob := I.mod.glob.keeps I.bk
    have hblt := hb1.keeps I.bk
    have nl := I.nolimit
    have KI := I.kIn
    have hfr : H (s.heap.objs.size + 1) = none := I.hok.fresh (Nat.le_succ _)
    have bare := I.bare
    obtain ⟨hh, g, d, tt, os⟩ := s
    refine wpAny_call (PySem.HandSPX.call_own PySem.F.excBase_ValueError hT hC (PySem.W.looks_findIn KI T.iC) (fun self => PySem.W.bind_fn KI self T.tI) (by simp) ?_)
    have hget : ((hh.push (PySem.W.kdv_tup [])).push (PySem.HandSPX.excO C hh.objs.size)).get? (hh.objs.size + 1) = some (PySem.HandSPX.excO C hh.objs.size) := by heap_get
    have kk : ∀ b o, hh.get? b = some o → ((hh.push (PySem.W.kdv_tup [])).push (PySem.HandSPX.excO C hh.objs.size)).get? b = some o := fun b o z => Heap.get?_push_of_some _ (Heap.get?_push_of_some _ z)
    have hnone : hh.get? (hh.objs.size + 1) = none := by
      cases q : hh.get? (hh.objs.size + 1) with
      | none => rfl
      | some o => exact absurd (Heap.lt_size q) (Nat.not_lt.mpr (Nat.le_succ _))
    have big : hh.objs.size ≤ ((hh.push (PySem.W.kdv_tup [])).push (PySem.HandSPX.excO C hh.objs.size)).objs.size := by
      rw [Heap.size_push, Heap.size_push]; omega
    refine sup_run0 (mg := X.mg) (mb := mb) (h₀ := hh) (s := ⟨(hh.push (PySem.W.kdv_tup [])).push (PySem.HandSPX.excO C hh.objs.size), g, d, tt, os⟩) T S hp hx hbind hmc KI hglob hblt ((hb2 _ sup_name).trans (by first | rfl | kernel_rfl)) nl kk big hget hnone (hr.make C [] []).depth fun h' t' tk k' he' => ?_
    exact ⟨rfl, _, _, _, ⟨hh, g, d, tt, os⟩, H, .ref C, none, rfl, I, k', hnone, he', ⟨rfl, rfl⟩, rfl, rfl, hfr, rfl, bare, raises_own T.exC T.tyC, h⟩
/-- X(e), one field -/
theorem pmk_sup1 {e : Expr} {te : TE} (M : Mk1 X.prog X.K C f) (hr : Room 1 X.A) (hg : Gl X nm) (hm : X.mg nm = some (.ref C)) (he : PE X e te) (hd : (nm == ("__debug__" : Str)) = false := by decide) (hst : starEach [e] X.env = (false, eval e X.env) :: starEach [] X.env := by rfl) :
    PMk X (.Call (.Name nm p) [e] [] pos) (fun σ H Q => tCons te tNil σ H fun vs H1 => ∃ v, vs = [v] ∧ ∀ dx, H1 dx = none → Q (.ref C) (some dx) (upd H1 dx (.xd [(f, v)]))) := by
  intro pins s σ H Q I h
  cases M with
  | mk T TF S hp hx hxf hbind hmc hsw hd1 hd2 =>
    refine wpAny_Call_Name_kw (ld_glob I hg hm ?_ hd)
    have ha : PA X [e] (tCons te tNil) := pa_cons he pa_nil hst
    refine PySem.W.callWith_K (h₀ := X.base) I.ok.mod.kin T.kC (thn (ha.run pos pins s σ H (fun vs H1 => ∃ v, vs = [v] ∧ ∀ dx, H1 dx = none → Q (.ref C) (some dx) (upd H1 dx (.xd [(f, v)]))) I h) fun us s1 hh => ?_) hst
    obtain ⟨vs, H1, I1, r1, v, rfl, q⟩ := hh
    refine ⟨I1.kIn, ?_⟩
    cases r1 with
    | cons ru rn =>
      rename_i u us'
      cases rn
      obtain ⟨n1, N', qn, bs, bm, hdct, sn, sub, ab, col, dd, k0, k1, k2, k3, k5, hC, hT⟩ := PySem.W.excInit_of I1.kIn T.ex
      obtain ⟨mb, hb1, hb2⟩ := I1.mod.blt
      have hglob := I1.mod.glob.keeps I1.bk
      have hblt := hb1.keeps I1.bk
      have nl := I1.nolimit
      have KI := I1.kIn
      have bare := I1.bare
      show wpAny _ _ (call (.ref C) [u]) _ _ _
      obtain ⟨hh, g, d, tt, os⟩ := s1
      refine wpAny_call (PySem.HandSPX.call_own PySem.F.excBase_ValueError hT hC (PySem.W.looks_findIn KI T.iC) (fun self => PySem.W.bind_fn KI self T.tI) (by show 1 ≤ sizeLine; rw [sizeLine_eq]; omega) ?_)
      have hget : ((hh.push (PySem.W.kdv_tup [u])).push (PySem.HandSPX.excO C hh.objs.size)).get? (hh.objs.size + 1) = some (PySem.HandSPX.excO C hh.objs.size) := by heap_get
      have kk : ∀ b o, hh.get? b = some o → ((hh.push (PySem.W.kdv_tup [u])).push (PySem.HandSPX.excO C hh.objs.size)).get? b = some o := fun b o z => Heap.get?_push_of_some _ (Heap.get?_push_of_some _ z)
      have hnone : hh.get? (hh.objs.size + 1) = none := by
        cases q : hh.get? (hh.objs.size + 1) with
        | none => rfl
        | some o => exact absurd (Heap.lt_size q) (Nat.not_lt.mpr (Nat.le_succ _))
      have big : hh.objs.size ≤ ((hh.push (PySem.W.kdv_tup [u])).push (PySem.HandSPX.excO C hh.objs.size)).objs.size := by
        rw [Heap.size_push, Heap.size_push]; omega
      refine sup_run1 (mg := X.mg) (mb := mb) (h₀ := hh) (s := ⟨(hh.push (PySem.W.kdv_tup [u])).push (PySem.HandSPX.excO C hh.objs.size), g, d, tt, os⟩) T TF S hp hx hxf hbind hmc hsw hd1 hd2 KI hglob hblt ((hb2 _ sup_name).trans (by first | rfl | kernel_rfl)) nl kk big hget hnone (hr.make C [u] []).depth fun h' t' tk dx k' he' hn' hdx hde => ?_
      have hH1 : H1 dx = none := I1.hok.fresh hdx
      have hid : ∀ b o, b ≠ hh.objs.size + 1 → h'.get? b = some o → (PySem.W.hideAll h' [hh.objs.size + 1]).get? b = some o := fun b o nb z => PySem.W.hideAll_get _ z (by simpa using nb)
      have kG : ∀ b o, hh.get? b = some o → (PySem.W.hideAll h' [hh.objs.size + 1]).get? b = some o := fun b o z => hid b o (fun y => by rw [y, hnone] at z; cases z) (k' b o z)
      have hnG : (PySem.W.hideAll h' [hh.objs.size + 1]).Ns1 dx (fun y => if y = f then some u else none) := hn'.at fun o z => hid dx o hde z
      have J : Inv X pins σ (upd H1 dx (.xd [(f, v)])) ⟨PySem.W.hideAll h' [hh.objs.size + 1], g, d, tt, os⟩ :=
        I1.laid (t' := tt) (a := dx) (o := .xd [(f, v)]) (h' := PySem.W.hideAll h' [hh.objs.size + 1]) kG hdx ?_
      · refine ⟨rfl, _, _, _, ⟨PySem.W.hideAll h' [hh.objs.size + 1], g, d, tt, os⟩, _, .ref C, some dx, rfl, J, fun b o z => PySem.W.of_hideAll _ z, PySem.W.hideAll_none _ List.mem_cons_self, he', ⟨rfl, rfl⟩, rfl, rfl, ?_, rfl, bare, raises_own T.exC T.tyC, q dx hH1⟩
        rw [upd_ne (Ne.symm hde)]
        exact I1.hok.fresh (Nat.le_succ _)
      · refine ⟨_, hnG, fun g => ?_⟩
        by_cases hg : g = f
        · rw [if_pos hg, hg]
          have z : List.lookup f [(f, v)] = some v := by simp [List.lookup]
          rw [z]
          exact ru
        · have e : (g == f) = false := by simpa using hg
          rw [if_neg hg]
          simp [List.lookup, e, RelO]
end
end PL

set_option Elab.async false
set_option linter.all false
set_option maxRecDepth 100000
/-! PE, part 2: try with several clauses that name the exception. -/
namespace PL
open PySem PySem.Spec L2
open PyProof.Rows
/-- what the clauses wish, one behind the other; slot i is the name's -/
def wAsN (K : PySem.W.Frag) (i : Nat) (Wo : WX) (D : Ends) : List (Value × (Addr → Value → Option Addr → TS)) → WX
  | [] => Wo
  | cl :: r => fun cls d σ H => ∃ b, PySem.W.exmOne K cls cl.1 = some b ∧ (b = true → ∀ a, H a = none → cl.2 a cls d { nx := fun τ H' => D.nx (τ.set i none) H', rt := D.rt, bk := fun τ H' => D.bk (τ.set i none) H', ct := fun τ H' => D.ct (τ.set i none) H' } (σ.set i (some (.ref a))) H) ∧ (b = false → wAsN K i Wo D r cls d σ H)
inductive HdN (X : Cx) (n : Str) : List ExceptHandler → List (Value × (Addr → Value → Option Addr → TS)) → Prop
  | nil : HdN X n [] []
  | cons {x : Str} {cl : Value × (Addr → Value → Option Addr → TS)} {b₀ : Stmt} {bs : List Stmt} {np hp : Pos} {hds : List ExceptHandler} {l : List (Value × (Addr → Value → Option Addr → TS))} (hc : Names X x cl.1)
    (hsu : ∀ (a : Addr) (oe : Obj) (cls : Value) (d : Option Addr) (pn : List (Addr × Obj)), Zc cls d oe → (∃ vs, oe.data = .fields vs) → PSs (X.suite a ((a, oe) :: pn)) (b₀ :: bs) (cl.2 a cls d)) (r : HdN X n hds l) :
    HdN X n (.ExceptHandler (some (.Name x np)) (some n) (b₀ :: bs) hp :: hds) (cl :: l)
section
variable {X : Cx} {body : List Stmt} {h₀ : ExceptHandler} {hds : List ExceptHandler} {l : List (Value × (Addr → Value → Option Addr → TS))} {pos : Pos} {tb : WX → TS} {Wo : WX} {n : Str} {i : Nat}
theorem tail_back {X : Cx} {pins pn' : List (Addr × Obj)} {D : Ends} {xe : Value → Shared → Prop} {f : Flow} {s1 : Shared} (ok : X.Ok) (hsp : SP (X.tr (X.pn ++ pins) xe) pn' D f s1) : SP X pins D f s1 := by
  cases f with
  | next => obtain ⟨σ', H', J', q⟩ := hsp; exact ⟨σ', H', J'.ofTry ok, q⟩
  | brk => obtain ⟨σ', H', J', q⟩ := hsp; exact ⟨σ', H', J'.ofTry ok, q⟩
  | cont => obtain ⟨σ', H', J', q⟩ := hsp; exact ⟨σ', H', J'.ofTry ok, q⟩
  | ret u => obtain ⟨v, σ', H', J', r, q⟩ := hsp; exact ⟨v, σ', H', J'.ofTry ok, r, q⟩
/-- one clause after the other -/
theorem hd_run {pins : List (Addr × Obj)} {D : Ends} {a : Addr} {B : Heap} {sI s' : Shared} {σ : L2.St} {H : Hp} {cls : Value} {d : Option Addr} {h3 : Heap} (hs : X.stack = X.env :: X.outer) (hf : X.env.frame = some X.env.locals) (hN : X.N.Nodup) (hi : X.N[i]? = some n) (hln : X.env.kindOf n = some .local) (tk : Takes X Wo) (ok : X.Ok)
    (J : Inv X pins σ H sI) (nb : ∀ b o, sI.heap.get? b = some o → b ∉ frs X.stack → B.get? b = some o) (up : sI.heap.UpToSlots h3) (os : s'.os = sI.os) (ag : AllBare s'.gens) (na : H a = none)
    (fl3 : HandSPX.FlyingZ B (X.env :: X.outer) a (Zc cls d) h3) (nL : a ≠ X.env.locals) (nF : a ∉ X.fs) :
    ∀ {hds : List ExceptHandler} {l : List (Value × (Addr → Value → Option Addr → TS))}, HdN X n hds l → wAsN X.K i Wo D l cls d σ H → wpAny (model X.prog X.w) X.A (handleBy (.ref a) X.env hds) (SP X pins D) X.xe { s' with heap := h3 } := by
  intro hds l hk
  induction hk with
  | nil =>
    intro w
    obtain ⟨k1, k2, k3, oe, vs, T, oT, ts', he, hz, hd, h1, hr⟩ := id fl3
    refine wpAny_handleBy_nil ?_
    unfold PySem.passOn
    refine wpAny_bind (wpAny_field he hd h1 ?_)
    rw [if_neg (show ¬ ((Value.ref T == Value.none) = true) from by simp)]
    have out : wpAny (model X.prog X.w) X.A (setFlight (.ref a) X.env.frame) (fun _ s4 => wpAny (model X.prog X.w) X.A (throw (.ref a) : Sem Flow) (SP X pins D) X.xe s4) X.xe { s' with heap := h3 } := by
      rw [hf]
      exact HandSPX.setFlight_upZ fl3 fun h4 hh4 up4 => wpAny_throw (tk _ _ ⟨a, B, sI, pins, σ, H, cls, d, rfl, J, nb, up.trans up4, .inr (.inr (by rw [hs]; exact hh4)), na, os, ag, w⟩)
    first | exact wpAny_bind (wpAny_pure (wpAny_bind out)) | exact wpAny_bind out
  | @cons x cl b₀ bs np hp hds l hc hsu r ih =>
    intro w
    obtain ⟨b, hb1, hyes, hno⟩ := w
    have J3 : Inv X pins σ H { s' with heap := h3 } := J.landed nb fl3.1 up os ag
    obtain ⟨oe3, vs3, he3, hz3, hd3⟩ := fl3.there
    have S3 := J3.suite he3 hd3 na nL nF
    refine wpAny_handleBy_cons (codeAny_handlers_test ?_) (by intro q; cases q)
    have LT : PySem.W.Looks (model X.prog X.w) h3 (typeOf (.ref a)) cls := fun A Q E s k q => wpAny_typeOf_ref (k _ _ he3) (by rw [hz3.1]; exact q)
    have LM := PySem.W.exm_one (M := model X.prog X.w) (J3.kIn) LT hb1
    have test : ∀ {Q E : Value → Shared → Prop}, Q cl.1 { s' with heap := h3 } → wpAny (model X.prog X.w) (X.A.mark (some (.ref a))) (eval (.Name x np) X.env) Q E { s' with heap := h3 } := fun q => by
      rcases hc with ⟨hg, hdbg, hm | ⟨hm, hv, hnn⟩⟩
      · exact ld_glob (X := X.suite a ((a, oe3) :: (X.pn ++ pins))) S3 hg hm q hdbg
      · exact ld_blt (X := X.suite a ((a, oe3) :: (X.pn ++ pins))) S3 hg hm hv q hnn hdbg
    refine test (LM.here ?_)
    cases b with
    | false => exact ih (hno rfl)
    | true =>
      refine codeAny_handlers_suite_as (HandSPX.lands_againZ fl3 fun h4 fl4 up4 => ?_)
      have J4 : Inv X pins σ H { s' with heap := h4 } := J.landed nb fl4.1 (up.trans up4) os ag
      obtain ⟨oe4, vs4, he4, hz4, hd4⟩ := fl4.there
      refine store_ok (X := X.suite a ((a, oe4) :: (X.pn ++ pins))) (v := .ref a) (J4.suite he4 hd4 na nL nF) hN hi (.inl hln) rfl (fun s5 S5 => ?_) (.inr hln)
      refine wpAny_mono ((hsu a oe4 cls d (X.pn ++ pins) hz4 ⟨_, hd4⟩).run [] s5 _ H _ S5 (hyes rfl a na)) (fun f s6 hsp => ?_) (fun _ _ z => z.elim)
      cases f with
      | next => obtain ⟨σ6, H6, S6, q6⟩ := hsp; exact gone_ok (S6.unsuite ok) hN hi hln fun s7 J7 => ⟨_, _, J7, q6⟩
      | brk => obtain ⟨σ6, H6, S6, q6⟩ := hsp; exact gone_ok (S6.unsuite ok) hN hi hln fun s7 J7 => ⟨_, _, J7, q6⟩
      | cont => obtain ⟨σ6, H6, S6, q6⟩ := hsp; exact gone_ok (S6.unsuite ok) hN hi hln fun s7 J7 => ⟨_, _, J7, q6⟩
      | ret u => obtain ⟨v6, σ6, H6, S6, r6, q6⟩ := hsp; exact gone_ok (S6.unsuite ok) hN hi hln fun s7 J7 => ⟨_, _, _, J7, r6, q6⟩
/-- try: body, except x as n: .., except y as n: .. -/
theorem ps_try_asN (hs : X.stack = X.env :: X.outer) (hf : X.env.frame = some X.env.locals) (hN : X.N.Nodup) (hi : X.N[i]? = some n) (hln : X.env.kindOf n = some .local) (tk : Takes X Wo)
    (hb : ∀ (W : WX) (pn : List (Addr × Obj)) (xe : Value → Shared → Prop), Takes (X.tr pn xe) W → PassesOwn (model X.prog X.w) X.A X.env xe → PSs (X.tr pn xe) body (tb W)) (hh : HdN X n (h₀ :: hds) l) :
    PS X (.Try body (h₀ :: hds) [] [] pos) (fun D σ H => tb (wAsN X.K i Wo D l) D σ H) := by
  refine ⟨fun pins s σ H D I h => wpAny_Try_except ?_⟩
  have ok := I.ok
  have hfr : X.A.frames = some (X.env :: X.outer) := ok.frames.trans (by rw [hs])
  refine wpAny_mono ((hb (wAsN X.K i Wo D l) (X.pn ++ pins) (fun e s1 => wpAny (model X.prog X.w) X.A (noteFrame e X.env) (fun _ s2 => wpAny (model X.prog X.w) X.A (setFlight e none) (fun _ s3 => wpAny (model X.prog X.w) X.A (handleBy e X.env (h₀ :: hds)) (SP X pins D) X.xe s3) X.xe s2) X.xe s1) (fun u s' xx => ?_) PassesOwn.looking).run [] s σ H D (I.toTry _) h)
    (fun f s1 hsp => ?_) fun _ _ z => z
  · obtain ⟨a, B, sI, pins', σ', H', cls, d, rfl, J', nb, up, sky, na, os, ag, w⟩ := xx
    rw [show (X.tr (X.pn ++ pins) _).stack = X.stack from rfl, hs] at sky
    refine Sky.land Zc.steady hfr hf sky fun h3 fl3 up3 => ?_
    obtain ⟨oe3, vs3, he3, hz3, hd3⟩ := fl3.there
    have nfr : a ∉ frs (X.env :: X.outer) := fun hm => by
      obtain ⟨_, o', e', hnf⟩ := fl3.2.2.1.mem hm
      rw [he3] at e'
      cases e'
      exact hnf _ hd3
    refine hd_run hs hf hN hi hln tk ok (J'.ofTry ok) nb (up.trans up3) os ag na fl3 (fun z => nfr ?_) (fun hm => nfr ?_) hh w
    · exact List.mem_filterMap.mpr ⟨X.env, List.mem_cons_self, by rw [hf, z]⟩
    · obtain ⟨e, he, q⟩ := List.mem_filterMap.mp hm
      exact List.mem_filterMap.mpr ⟨e, List.mem_cons_of_mem _ he, q⟩
  · have z := tail_back ok hsp
    cases f with
    | next => exact wpAny_execs_nil z
    | ret v => exact z
    | brk => exact z
    | cont => exact z
end
end PL

set_option Elab.async false
set_option linter.all false
set_option maxRecDepth 100000
/-! PE, part 3: exceptions by data. -/
namespace PL
open PySem PySem.Spec L2
open PyProof.Rows
/-- an exception, by data: its class, its one field -/
structure EX where
  c : Value
  fs : Option (Str × D)
def ExOk (K : PySem.W.Frag) (F : Hp) (x : EX) (cls : Value) (d : Option Addr) : Prop := cls = x.c ∧ match x.fs with
  | none => d = none
  | some f => ∃ a v, d = some a ∧ F a = some (.xd [(f.1, v)]) ∧ Rp K F v f.2
/-- a box that knows where it began -/
def Box.at (B : Box) (G0 F0 : Hp) : Box where
  at_ := B.at_
  frame := B.frame
  live := B.live
  ok := fun G F => Same G0 G ∧ Same F0 F
  okF := fun h s => ⟨h.1, h.2.trans s⟩
  okG := fun h hn => ⟨fun b o z => by rw [upd_ne (ne_of_none (h.1 _ _ z) hn)]; exact h.1 _ _ z, h.2⟩
theorem Box.at_bare (B : Box) (G0 F0 : Hp) : (B.at G0 F0).bare = B.bare := rfl
section
variable {K : PySem.W.Frag} {B : Box} {G G0 F F0 H : Hp} {σ : L2.St} {ρ : Env} {fp : Nat → Addr → Prop}
theorem OkW.at (k : OkW K B G F H σ ρ fp) : OkW K (B.at G F) G F H σ ρ fp := ⟨k.g, k.f, k.gf, ⟨Same.refl G, Same.refl F⟩, k.len, k.own, k.dj, k.out, k.up⟩
theorem St0.at (k : St0 K B G F H σ ρ) : St0 K (B.at G F) G F H σ ρ := ⟨k.1, let ⟨fp, w⟩ := k.2; ⟨fp, w.at⟩⟩
theorem OkW.less (hB : ∀ G F, B.ok G F) (k : OkW K (B.at G0 F0) G F H σ ρ fp) : OkW K B G0 F H σ ρ fp :=
  ⟨k.bx.1.trans k.g, k.f, fun a o z => k.gf a o (k.bx.1 a o z), hB _ _, k.len, k.own, k.dj, fun i a z => ⟨k.bx.1.free (k.out i a z).1, (k.out i a z).2⟩, k.up⟩
theorem St0.less (hB : ∀ G F, B.ok G F) (k : St0 K (B.at G0 F0) G F H σ ρ) : St0 K B G0 F H σ ρ ∧ Same F0 F := ⟨⟨k.1, let ⟨fp, w⟩ := k.2; ⟨fp, w.less hB⟩⟩, let ⟨_, w⟩ := k.2; w.bx.2⟩
theorem St0.know (k : St0 K B G F H σ ρ) : B.ok G F := k.2.bx
theorem Fl.less {v : V} {r : T} (hB : ∀ G F, B.ok G F) (k : Fl K (B.at G0 F0) G F H σ ρ v r) : Fl K B G0 F H σ ρ v r ∧ Same F0 F := ⟨⟨k.still, let ⟨fp, w⟩ := k.ok; ⟨fp, w.less hB⟩, k.al⟩, let ⟨_, w⟩ := k.ok; w.bx.2⟩
theorem EndsOk.at {DP : PEnds} {E : Ends} (hB : ∀ G F, B.ok G F) (en : EndsOk K B G0 F0 DP E) : EndsOk K (B.at G0 F0) G0 F0 DP E :=
  ⟨fun σ' H' ρ' F' p k s => en.nx σ' H' ρ' F' p (k.less hB).1 s, fun r v σ' H' ρ' F' p k s => en.rt r v σ' H' ρ' F' p (k.less hB).1 s, fun σ' H' ρ' F' p k s => en.bk σ' H' ρ' F' p (k.less hB).1 s, fun σ' H' ρ' F' p k s => en.ct σ' H' ρ' F' p (k.less hB).1 s⟩
end
/-- the wish W is borne by ω -/
def Bears (K : PySem.W.Frag) (B : Box) (W : WX) (ω : EX → Env → Prop) : Prop := ∀ x ρ, ω x ρ → ∀ G F H σ cls d, St0 K B G F H σ ρ → ExOk K F x cls d → W cls d σ H
/-! ### raise -/
section
variable {X : Cx} {B : Box} {W : WX} {ω : EX → Env → Prop} {C : Addr} {nm f : Str} {p pos pos' : Pos} {e : Expr} {te : QE}
def sRaise (ω : EX → Env → Prop) (x : EX) (DP : PEnds) (ρ : Env) : Prop := ω x ρ
theorem s_raise0 (hr : Room 1 X.A) (M : Mk0 X.prog X.K C) (tk : Takes X W) (bw : Bears X.K B W ω) (hg : Gl X nm) (hm : X.mg nm = some (.ref C)) (hc : X.calm = true := by rfl) (hd : (nm == ("__debug__" : Str)) = false := by decide) :
    PS X (.Raise (some (.Call (.Name nm p) [] [] pos)) none pos') (liftS X.K B (sRaise ω ⟨.ref C, none⟩)) :=
  weakS (ps_raise hc tk (pmk_sup0 M hr hg hm hd)) fun D σ H ⟨G, F, ρ, DP, k, h, en⟩ => bw _ _ h _ _ _ _ _ _ k ⟨rfl, rfl⟩
def sRaiseF (ω : EX → Env → Prop) (C : Addr) (f : Str) (te : QE) (DP : PEnds) (ρ : Env) : Prop := te ρ fun r ρ' => ∃ d, r = .d d ∧ ω ⟨.ref C, some (f, d)⟩ ρ'
theorem s_raise1 (hr : Room 1 X.A) (M : Mk1 X.prog X.K C f) (tk : Takes X W) (bw : Bears X.K B W ω) (hg : Gl X nm) (hm : X.mg nm = some (.ref C)) (he : PE X e (lift X.K B te)) (hc : X.calm = true := by rfl) (hd : (nm == ("__debug__" : Str)) = false := by decide) (hst : starEach [e] X.env = (false, eval e X.env) :: starEach [] X.env := by rfl) :
    PS X (.Raise (some (.Call (.Name nm p) [e] [] pos)) none pos') (liftS X.K B (sRaiseF ω C f te)) :=
  weakS (ps_raise hc tk (pmk_sup1 M hr hg hm he hd hst)) fun D σ H ⟨G, F, ρ, DP, k, h, en⟩ => ⟨G, F, ρ, _, k, h, fun r ρ1 v H1 F1 ⟨d, hrd, h1⟩ fl s1 => ⟨v, rfl, fun dx hdx => by
    subst hrd
    have rp := fl_d fl
    have hF := (fl.ok.free hdx).1
    have k2 : St0 X.K B G (upd F1 dx (.xd [(f, v)])) (upd H1 dx (.xd [(f, v)])) σ ρ1 := ⟨fl.still, (fl.ok.newF hdx _).pop fl.still⟩
    exact bw _ _ h1 _ _ _ _ _ _ k2 ⟨rfl, dx, v, rfl, upd_same, rp.mono (same_upd hF)⟩⟩⟩
end
/-! ### defs that may raise -/
def spX (K : PySem.W.Frag) (B : Box) (n : Nat) (φ : List T → (T → Prop) → (EX → Prop) → Prop) : Sp := fun vs H Q E => ∃ G F ts P PX, ts.length = n ∧ (∀ t ∈ ts, t.arg) ∧ Ok K B G F H (vs.map some) ts ∧ φ ts P PX ∧
  (∀ r v H' F', P r → r.still → Ok K B G F' H' (vs.map some ++ [some v]) (ts ++ [r]) → Same F F' → Q v H') ∧ ∀ x cls d H' F', PX x → Ok K B G F' H' (vs.map some) ts → Same F F' → ExOk K F' x cls d → E cls d H'
theorem spX_len {K : PySem.W.Frag} {B : Box} {n : Nat} {φ : List T → (T → Prop) → (EX → Prop) → Prop} : ∀ vs H Q E, spX K B n φ vs H Q E → vs.length = n := fun vs H Q E ⟨G, F, ts, P, PX, hl, _, ok, _⟩ => by
  have := ok.len
  rw [List.length_map] at this
  omega
section
variable {P : Program} {w : World} {K : PySem.W.Frag} {mg mb : Str → Option Value} {base : Heap}
theorem fnX_mk {k : Nat} {f : Addr} {x qual : Str} {st : Stmt} {fd : FuncData} {N ps : List Str} {sp : Sp} (F : Fun K x qual st f fd) (S : FnScope N ps (defScope st)) (len : ∀ vs H Q E, sp vs H Q E → vs.length = ps.length)
    (hbody : ∀ (cdv : Value) (A : Around) (outer : List PySem.Env) (s : Shared) (H : Hp) (vs : List V) (Q : VK) (E : XK), RoomG k (A.deeper (envOfC qual (defScope st) s.heap.objs.size f cdv)) → sp vs H Q E →
      ∃ t, PSs (cxOf (L2.CX P w) P w K mg base N qual (defScope st) f cdv A outer s H E) (defBody st) t ∧ t { nx := fun _ H' => Q .non H', rt := Q } (L2.start N vs) H) : FnG P w K mg base (L2.CX P w) (k + 1) f fd ps sp :=
  fun A hr => ⟨len, fun outer s H args us vs Q E e0 hb r h => by
    obtain ⟨oc, od, kV, doc, pm, an, cdv, ct, osl, rfl, lk, hcd⟩ := F.ex
    have KX : K.In s.heap := e0.mod.kin.keeps fun b o e => (e0.bs b o e).1
    have nl : s.heap.NoLimit := e0.mod.nolimit.keeps fun b o e => (e0.bs b o e).1
    refine codeAny_call_function hr.depth (KX _ _ lk) rfl S.co S.gen rfl (PySem.W.codeRec_of KX hcd) (hb _ _ _ _ (wpAny_newFunctionEnv_cells S.kind (fun y hy => ?_) fun env he s1 ic => ?_))
    · rcases S.par y.1 (List.of_mem_zip hy).1 with z | z
      · exact .inl z
      · exact .inr ⟨z, PySem.W.cellsFrom_some _ _ _ (.inl z)⟩
    · subst he
      obtain ⟨t, ht, hq⟩ := hbody cdv A outer s H vs Q E (hr.deeper _) h
      have J := inv_start (CX := L2.CX P w) (E := E) S hr.hd e0 (len _ _ _ _ h) r ic
      refine ⟨nl.keeps ic.toInCall.keep, codeAny_func (wpAny_mono (ht.run [] s1 (L2.start N vs) H _ J hq) (fun fl s' z => ?_) fun _ _ z => z)⟩
      have out : ∀ {σ' : L2.St} {H' : Hp} {v : V} {u : Value}, Inv (cxOf (L2.CX P w) P w K mg base N qual (defScope st) f cdv A outer s H E) [] σ' H' s' → RelV v u → Q v H' → CE outer P w H s Q u s' := fun {σ' H' v u} I rv q => ⟨v, H', I.os, I.bare, I.base, I.hok, rv, q⟩
      cases fl with
      | ret u => obtain ⟨v, σ', H', I, rv, q⟩ := z; exact out I rv q
      | next => obtain ⟨σ', H', I, q⟩ := z; exact out (v := .non) (u := Value.none) I rfl q
      | brk => obtain ⟨_, _, _, q⟩ := z; exact q.elim
      | cont => obtain ⟨_, _, _, q⟩ := z; exact q.elim⟩
/-- what a def that raises leaves: the box as the caller has it -/
def outX (ts : List T) (PX : EX → Prop) (x : EX) (ρ : Env) : Prop := PX x ∧ keeps ts ρ
/-- THE RULE for a def that may raise, by data -/
theorem fnX {B : Box} (hB : ∀ G F, B.ok G F) {x qual : Str} {st : Stmt} {f : Addr} {fd : FuncData} {N ps : List Str} {k : Nat} {φ : List T → (T → Prop) → (EX → Prop) → Prop} (Fn : Fun K x qual st f fd) (S : FnScope N ps (defScope st))
    (hbody : ∀ (cdv : Value) (A : Around) (outer : List PySem.Env) (s : Shared) (H : Hp) (E : XK), RoomG k (A.deeper (PyProof.Rows.envOfC qual (defScope st) s.heap.objs.size f cdv)) → ∀ (ts : List T) (Pq : T → Prop) (PX : EX → Prop), ts.length = ps.length → φ ts Pq PX → ∀ (G0 F0 : Hp),
      Bears K (B.at G0 F0) (fun cls d _ H => E cls d H) (outX ts PX) → Takes (cxOf (L2.CX P w) P w K mg base N qual (defScope st) f cdv A outer s H E) (fun cls d _ H => E cls d H) →
      ∃ t : QS, PSs (cxOf (L2.CX P w) P w K mg base N qual (defScope st) f cdv A outer s H E) (defBody st) (liftS K (B.at G0 F0) t) ∧ t (endsP ts Pq) (startP N ts)) : FnG P w K mg base (L2.CX P w) (k + 1) f fd ps (spX K B ps.length φ) := by
  refine fnX_mk Fn S spX_len fun cdv A outer s H vs Q E hr ⟨G, F, ts, Pq, PX, hl, ha, ok, hφ, q, qx⟩ => ?_
  have st0 : ∀ t ∈ ts, t.still := fun t ht => T.arg_still (ha t ht)
  have bears : Bears K (B.at G F) (fun cls d _ H => E cls d H) (outX ts PX) := fun x ρ ⟨px, kp⟩ G' F' H' σ' cls d k' hx => by
    obtain ⟨k2, s⟩ := k'.less hB
    have z := ok.leave ha (k2.2.pushD .non) kp trivial s
    exact qx x cls d H' F' px (z.pop st0) s hx
  obtain ⟨t, h, ht⟩ := hbody cdv A outer s H E hr ts Pq PX hl hφ G F bears (takes_of rfl rfl rfl rfl)
  have hvl : vs.length = ts.length := by have := ok.len; simpa using this
  have k0 : St0 K B G F H (L2.start N vs) (startP N ts) := ⟨fun t ht => by
    rcases List.mem_append.mp ht with z | z
    · exact st0 t z
    · rw [List.eq_of_mem_replicate z]
      trivial, by
    unfold L2.start startP
    rw [hvl]
    exact ok.pad st0 _⟩
  refine ⟨_, h, G, F, startP N ts, endsP ts Pq, k0.at, ht, EndsOk.at hB ⟨fun σ' H' ρ' F' ⟨p, kp⟩ k' s => ?_, fun r v σ' H' ρ' F' ⟨⟨p, sr⟩, kp⟩ fl s => ?_, fun _ _ _ _ z => z.elim, fun _ _ _ _ z => z.elim⟩⟩
  · exact q _ .non H' F' p trivial (ok.leave ha (k'.2.pushD .non) kp trivial s) s
  · exact q _ v H' F' p sr (ok.leave ha fl.ok kp sr s) s
end
end PL

set_option Elab.async false
set_option linter.all false
set_option maxRecDepth 100000
/-! PE, part 4: calls of defs that may raise; try; what a suite asks of the exception. -/
namespace PL
open PySem PySem.Spec L2
open PyProof.Rows
/-! ### calls, at the heap -/
section
variable {X : Cx} {W : WX} {f : Addr} {fd : FuncData} {ps ks : List Str} {sp : Sp} {x : Str} {p pos : Pos} {e : Expr} {es : List Expr} {t tk : TA} {g : List Value → List Value → List Value} {gV : List V → List V → List V} {kws : List Keyword}
theorem goX {pins : List (Addr × Obj)} {σ : L2.St} {H : Hp} {s : Shared} {Q : VK} {given : Args} {us : List Value} {vs : List V} (F : FnA X.prog X.w X.K X.mg X.base (L2.CX X.prog X.w) X.A f fd ps sp) (hb : BindsTo s fd given (ps.zip us)) (tw : Takes X W)
    (I : Inv X pins σ H s) (r : Vals vs us) (h : sp vs H Q (WE W σ)) : codeAny (model X.prog X.w) X.A (.call (.ref f) given) (fun r s' => match r with | .ok (.ret v) => EP X pins σ Q v s' | .ok _ => False | .error e => X.xe e s') s :=
  codeAny_mono (F.goes X.stack s H given us vs Q (WE W σ) I.env0 hb r h) fun r s' hq => match r, hq with
    | .error e, hq => passAt tw σ pins H s e s' I hq
    | .ok (.ret u), hq => I.after hq
    | .ok .next, hq => False.elim hq
    | .ok .brk, hq => False.elim hq
    | .ok .cont, hq => False.elim hq
theorem pe_callAX (F : FnA X.prog X.w X.K X.mg X.base (L2.CX X.prog X.w) X.A f fd ps sp) (hg : Gl X x) (hm : X.mg x = some (.ref f)) (hk : PySem.W.keepIn X.K (.ref f) = true) (hb : Binds X.K fd ps []) (tw : Takes X W)
    (ha : PA X (e :: es) t) (hdb : (x == ("__debug__" : Str)) = false := by decide) (he : starEach (e :: es) X.env = (false, eval e X.env) :: starEach es X.env := by rfl) (hpl : (backTo pos (starEach es X.env)).any (·.1) = false := by rfl) :
    PE X (.Call (.Name x p) (e :: es) [] pos) (tCallS sp (WE W) t) := ⟨fun pins s σ H Q I h => by
  refine wpAny_Call_Name_kw (ld_glob I hg hm (PySem.W.callWith_K (h₀ := X.base) I.ok.mod.kin hk ?_ he hpl) hdb)
  refine thn (ha.run pos pins s σ H _ I h) fun us s1 ⟨vs, H1, I1, r, q⟩ => ⟨I1.kIn, ?_⟩
  have hb1 := hb s1 us I1.kIn (by rw [List.append_nil, ← r.length]; exact F.len _ _ _ _ q)
  rw [List.append_nil] at hb1
  exact wpAny_call (goX F hb1 tw I1 r q)⟩
theorem kwX {pins : List (Addr × Obj)} {σ : L2.St} {H : Hp} {s : Shared} {Q : VK} {us ws : List Value} {vs zs : List V} (F : FnA X.prog X.w X.K X.mg X.base (L2.CX X.prog X.w) X.A f fd ps sp) (hb : KBinds X.K fd ps ks g gV) (tw : Takes X W)
    (I : Inv X pins σ H s) (r : Vals vs us) (rz : Vals zs ws) (h : sp (gV vs zs) H Q (WE W σ)) : wpAny (model X.prog X.w) X.A (call (.ref f) us (ks.zip ws)) (EP X pins σ Q) X.xe s :=
  have r2 := hb.rel r rz
  wpAny_call (goX F (hb.to s us ws I.kIn (by rw [← r2.length]; exact F.len _ _ _ _ h)) tw I r2 h)
end
/-! ### .. by data -/
def qCallX (ω : EX → Env → Prop) (φ : List T → (T → Prop) → (EX → Prop) → Prop) (ta : QA) (ρ : Env) (Q : T → Env → Prop) : Prop := ta ρ fun ws ρ1 => match wsT ws with
  | some ts => φ ts (fun r => Q r ρ1) fun x => ω x ρ1
  | none => False
section
variable {K : PySem.W.Frag} {B : Box}
theorem lift_callX {n : Nat} {φ : List T → (T → Prop) → (EX → Prop) → Prop} {ω : EX → Env → Prop} {W : WX} {ta : QA} {σ : L2.St} {H : Hp} {Q : VK} (hn : ∀ ts P PX, φ ts P PX → ts.length = n) (bw : Bears K B W ω) (h : lift K B (qCallX ω φ ta) σ H Q) : tCallS (spX K B.bare n φ) (WE W) (liftA K B ta) σ H Q := by
  obtain ⟨G, F, ρ, P, k, h, q⟩ := h
  refine liftA_use k h fun ws ρ1 vs H1 F1 h1 k1 w1 e1 => ?_
  split at h1
  · rename_i ts g
    obtain ⟨hl, ha, ho⟩ := wsT_own (B := B) w1 g
    obtain ⟨fp, kw⟩ := k1.2
    refine ⟨restOf F1 H1 fun a => ∃ i u, (none : Option (Nat × Addr)) = some (i, u) ∧ fp i a, F1, ts, _, _, hn _ _ _ h1, ha, ⟨fun _ _ => False, fun a o z => (of_restOf z).2.2, k1.2.f, fun a o z => (of_restOf z).1, True.intro, by simp [hl], fun i t hi => ho _ _ i t hi, fun _ _ _ z => z.elim, fun _ _ z => z.elim, fun _ _ z => z.elim⟩, h1, fun r v H' F' p sr ⟨fq, k'⟩ s => ?_, fun x cls d H' F' px k' s hx => ?_⟩
    · exact q r ρ1 v H' F' p ⟨k1.1, ⟨_, kw.back (bi := none) (fun _ _ z => nomatch z) k' (fun _ _ z => nomatch z) sr s⟩, fun i e => by subst e; exact sr.elim⟩ (e1.trans s)
    · obtain ⟨fq, k2⟩ := k'.pushD (v := .non) (d := .none) .non
      have z : Ok K B G F' H' (σ ++ [some .non]) (ρ1 ++ [.d .none]) := ⟨_, kw.back (bi := none) (fun _ _ z => nomatch z) k2 (fun _ _ z => nomatch z) trivial s⟩
      exact bw x ρ1 px G F' H' σ cls d ⟨k1.1, z.pop k1.1⟩ hx
  · exact h1.elim
end
/-- a def that may raise, as a bundle -/
structure CalX (P : Program) (w : World) (K : PySem.W.Frag) (mg : Str → Option Value) (base : Heap) (B : Box) (k : Nat) (x : Str) (ps : List Str) (n : Nat) (φ : List T → (T → Prop) → (EX → Prop) → Prop) : Prop where
  ex : ∃ f fd, mg x = some (.ref f) ∧ PySem.W.keepIn K (.ref f) = true ∧ Binds K fd ps [] ∧ FnG P w K mg base (L2.CX P w) k f fd ps (spX K B.bare n φ)
  len : ∀ ts Q E, φ ts Q E → ts.length = n
structure CalKX (P : Program) (w : World) (K : PySem.W.Frag) (mg : Str → Option Value) (base : Heap) (B : Box) (k : Nat) (x : Str) (ps : List Str) (n : Nat) (φ : List T → (T → Prop) → (EX → Prop) → Prop) (ks : List Str) (n0 : Nat) (is : List Nat) : Prop where
  ex : ∃ f fd, mg x = some (.ref f) ∧ PySem.W.keepIn K (.ref f) = true ∧ KB K fd ps ks n0 is ∧ FnG P w K mg base (L2.CX P w) k f fd ps (spX K B.bare n φ)
  len : ∀ ts Q E, φ ts Q E → ts.length = n
theorem CalX.to {P : Program} {w : World} {K : PySem.W.Frag} {mg : Str → Option Value} {base : Heap} {B B' : Box} {k : Nat} {x : Str} {ps : List Str} {n : Nat} {φ : List T → (T → Prop) → (EX → Prop) → Prop} (c : CalX P w K mg base B k x ps n φ) (h : B.bare = B'.bare) : CalX P w K mg base B' k x ps n φ := ⟨h ▸ c.ex, c.len⟩
theorem CalKX.to {P : Program} {w : World} {K : PySem.W.Frag} {mg : Str → Option Value} {base : Heap} {B B' : Box} {k : Nat} {x : Str} {ps ks : List Str} {n n0 : Nat} {is : List Nat} {φ : List T → (T → Prop) → (EX → Prop) → Prop} (c : CalKX P w K mg base B k x ps n φ ks n0 is) (h : B.bare = B'.bare) : CalKX P w K mg base B' k x ps n φ ks n0 is := ⟨h ▸ c.ex, c.len⟩
section
variable {X : Cx} {B : Box} {kk n n0 : Nat} {x : Str} {ps ks : List Str} {is : List Nat} {φ : List T → (T → Prop) → (EX → Prop) → Prop} {W : WX} {ω : EX → Env → Prop} {p pos : Pos} {e : Expr} {es : List Expr} {te : QE} {t tk : QA} {kws : List Keyword}
theorem q_xF (C : CalX X.prog X.w X.K X.mg X.base B kk x ps n φ) (hr : RoomG kk X.A) (hg : Gl X x) (tw : Takes X W) (bw : Bears X.K B W ω) (ha : PA X (e :: es) (liftA X.K B t)) (hd : (x == ("__debug__" : Str)) = false := by decide) (he : starEach (e :: es) X.env = (false, eval e X.env) :: starEach es X.env := by rfl) (hpl : (backTo pos (starEach es X.env)).any (·.1) = false := by rfl) :
    PE X (.Call (.Name x p) (e :: es) [] pos) (lift X.K B (qCallX ω φ t)) :=
  let ⟨_, _, h1, h2, h3, h4⟩ := C.ex
  weakE (pe_callAX (h4 X.A hr) hg h1 h2 h3 tw ha hd he hpl) fun _ _ _ => lift_callX C.len bw
theorem q_xK0 (C : CalKX X.prog X.w X.K X.mg X.base B kk x ps n φ ks 0 is) (hr : RoomG kk X.A) (hg : Gl X x) (tw : Takes X W) (bw : Bears X.K B W ω) (hkw : PK X kws (liftA X.K B tk)) (hall : (backToKw pos (keywordEach kws X.env)).all (·.1.isSome) = true := by rfl) (hks : (backToKw pos (keywordEach kws X.env)).filterMap (·.1) = ks := by rfl) (hdb : (x == ("__debug__" : Str)) = false := by decide)
    (hpl : ((backTo pos (starEach [] X.env)).any (·.1) || (backToKw pos (keywordEach kws X.env)).any (·.1.isNone)) = false := by rfl) :
    PE X (.Call (.Name x p) [] kws pos) (lift X.K B (qCallX ω φ (qKw 0 ks.length is qNil tk))) := by
  obtain ⟨f, fd, h1, h2, h3, h4⟩ := C.ex
  refine ⟨fun pins s σ H Q I h => ?_⟩
  have h' := lift_kw (lift_callX C.len bw h)
  obtain ⟨G, F0, ρ, P, k, hP, q⟩ := h'
  have h2' := q [] ρ [] H F0 hP k .nil (Same.refl F0)
  refine wpAny_Call_Name_kw (ld_glob I hg h1 (PySem.W.callWith_KW0 (h₀ := X.base) I.ok.mod.kin h2 hall ?_ hpl) hdb)
  refine thn (hkw.run pos pins s σ H _ I h2') fun ws s2 ⟨zs, H2, I2, rz, q2⟩ => ⟨I2.kIn, ?_⟩
  rw [hks]
  exact kwX (us := []) (vs := []) (h4 X.A hr) h3.kb tw I2 .nil rz q2
end
/-! ### try -/
/-- a clause: the class that it names, the exceptions that it is told of, its suite -/
structure Cl where
  c : Value
  ok : EX → Prop
  ts : EX → Addr → QS
def endsUn (i : Nat) (DP : PEnds) : PEnds := { nx := fun ρ => DP.nx (ρ.set i .un), rt := DP.rt, bk := fun ρ => DP.bk (ρ.set i .un), ct := fun ρ => DP.ct (ρ.set i .un) }
/-- the exception comes to one of the clauses -/
def goesTo (K : PySem.W.Frag) (i : Nat) (DP : PEnds) (x : EX) (ρ : Env) : List Cl → Prop
  | [] => False
  | cl :: r => (PySem.W.exmOne K x.c cl.c = some true ∧ cl.ok x ∧ ∀ a, cl.ts x a (endsUn i DP) (ρ.set i (.raw (.ref a)))) ∨ (PySem.W.exmOne K x.c cl.c = some false ∧ goesTo K i DP x ρ r)
def sTry (K : PySem.W.Frag) (i : Nat) (tb : (EX → Env → Prop) → QS) (cls : List Cl) (DP : PEnds) (ρ : Env) : Prop := tb (fun x ρ' => i < ρ'.length ∧ goesTo K i DP x ρ' cls) DP ρ
inductive HdP (X : Cx) (B : Box) (n : Str) : List ExceptHandler → List Cl → Prop
  | nil : HdP X B n [] []
  | cons {x : Str} {cl : Cl} {b₀ : Stmt} {bs : List Stmt} {np hp : Pos} {hds : List ExceptHandler} {l : List Cl} (hc : Names X x cl.c)
    (hsu : ∀ (a : Addr) (oe : Obj) (d : Option Addr) (pn : List (Addr × Obj)) (e : EX) (G0 F0 : Hp), Zc e.c d oe → (∃ vs, oe.data = .fields vs) → ExOk X.K F0 e e.c d → cl.ok e → PSs (X.suite a ((a, oe) :: pn)) (b₀ :: bs) (liftS X.K (B.at G0 F0) (cl.ts e a))) (r : HdP X B n hds l) :
    HdP X B n (.ExceptHandler (some (.Name x np)) (some n) (b₀ :: bs) hp :: hds) (cl :: l)
section
variable {X : Cx} {B : Box} {body : List Stmt} {h₀ : ExceptHandler} {hds : List ExceptHandler} {l : List Cl} {pos : Pos} {n : Str} {i : Nat} {tb : (EX → Env → Prop) → QS}
theorem pss_ex {α : Type} {p : α → Prop} {st : List Stmt} {t : α → TS} (h : ∀ a, p a → PSs X st (t a)) : PSs X st (fun D σ H => ∃ a, p a ∧ t a D σ H) := ⟨fun pins s σ H D I ⟨a, hp, q⟩ => (h a hp).run pins s σ H D I q⟩
/-- a clause at the heap -/
def clH (K : PySem.W.Frag) (B : Box) (cl : Cl) : Value × (Addr → Value → Option Addr → TS) := (cl.c, fun a cls d D σ H => ∃ z : EX × Hp × Hp, (z.1.c = cls ∧ ExOk K z.2.2 z.1 cls d ∧ cl.ok z.1) ∧ liftS K (B.at z.2.1 z.2.2) (cl.ts z.1 a) D σ H)
theorem HdP.low (h : HdP X B n hds l) : HdN X n hds (l.map (clH X.K B)) := by
  induction h with
  | nil => exact .nil
  | cons hc hsu r ih =>
    refine .cons hc (fun a oe cls d pn hz hf => pss_ex fun z ⟨h1, h2, h3⟩ => ?_) ih
    subst h1
    exact hsu a oe d pn z.1 z.2.1 z.2.2 hz hf h2 h3
theorem bears_try (hB : ∀ G F, B.ok G F) {G F : Hp} {DP : PEnds} {D : Ends} {Wo : WX} (en : EndsOk X.K B G F DP D) : ∀ l : List Cl, Bears X.K (B.at G F) (wAsN X.K i Wo D (l.map (clH X.K B))) (fun x ρ' => i < ρ'.length ∧ goesTo X.K i DP x ρ' l) := by
  intro l x ρ ⟨hi, h⟩ G' F' H σ cls d k hx
  induction l with
  | nil => exact h.elim
  | cons cl r ih =>
    have hc : cls = x.c := hx.1
    rcases h with ⟨e1, e2, e3⟩ | ⟨e1, e2⟩
    · refine ⟨true, by rw [hc]; exact e1, fun _ a ha => ?_, fun z => nomatch z⟩
      obtain ⟨k1, s1⟩ := k.less hB
      have k2 : St0 X.K B G F' H (σ.set i (some (.ref a))) (ρ.set i (.raw (.ref a))) := (k1.raw (v := .ref a)).set hi trivial
      refine ⟨(x, G, F'), ⟨hc.symm, hx, e2⟩, G, F', _, endsUn i DP, k2.at, e3 a, EndsOk.at hB ⟨fun σ2 H2 ρ2 F2 p k3 s3 => ?_, fun r v σ2 H2 ρ2 F2 p k3 s3 => ?_, fun σ2 H2 ρ2 F2 p k3 s3 => ?_, fun σ2 H2 ρ2 F2 p k3 s3 => ?_⟩⟩
      · exact en.nx _ _ _ _ p (set_unK k3) (s1.trans s3)
      · exact en.rt _ _ _ _ _ _ p k3 (s1.trans s3)
      · exact en.bk _ _ _ _ p (set_unK k3) (s1.trans s3)
      · exact en.ct _ _ _ _ p (set_unK k3) (s1.trans s3)
    · exact ⟨false, by rw [hc]; exact e1, fun z => (nomatch z), fun _ => ih e2⟩
theorem s_try (hB : ∀ G F, B.ok G F) (hs : X.stack = X.env :: X.outer) (hf : X.env.frame = some X.env.locals) (hN : X.N.Nodup) (hi : X.N[i]? = some n) (hln : X.env.kindOf n = some .local)
    (hb : ∀ (W : WX) (pn : List (Addr × Obj)) (xe : Value → Shared → Prop) (G0 F0 : Hp) (ω : EX → Env → Prop), Takes (X.tr pn xe) W → Bears X.K (B.at G0 F0) W ω → PassesOwn (model X.prog X.w) X.A X.env xe → PSs (X.tr pn xe) body (liftS X.K (B.at G0 F0) (tb ω)))
    (hh : HdP X B n (h₀ :: hds) l) : PS X (.Try body (h₀ :: hds) [] [] pos) (liftS X.K B (sTry X.K i tb l)) := by
  refine weakS (ps_try_asN (Wo := fun _ _ _ _ => False) (tb := fun W D σ H => ∃ z : Hp × Hp × (EX → Env → Prop), Bears X.K (B.at z.1 z.2.1) W z.2.2 ∧ liftS X.K (B.at z.1 z.2.1) (tb z.2.2) D σ H) hs hf hN hi hln takes0 (fun W pn xe tk ps => pss_ex fun z hz => hb W pn xe z.1 z.2.1 z.2.2 tk hz ps) hh.low) fun D σ H ⟨G, F, ρ, DP, k, h, en⟩ => ?_
  exact ⟨(G, F, _), bears_try hB en l, G, F, ρ, DP, k.at, h, en.at hB⟩
end
/-! ### in a suite -/
section
variable {X : Cx} {B : Box} {i : Nat} {a D : Addr} {oe : Obj} {d : Option Addr} {pn : List (Addr × Obj)} {nm f : Str} {p pos pos' : Pos}
/-- isinstance(e, c), e the exception of the suite -/
theorem call_isX (C : ExcC X.K D) (hz : Zc (.ref D) d oe) (hf : ∃ vs, oe.data = .fields vs) : CallR (X.suite a ((a, oe) :: pn)) (.builtin "isinstance") (fun xs H Q => (∀ dd, d = some dd → ∃ fs, H dd = some (.xd fs)) ∧ rIsE X.K D a xs H Q) := by
  intro pins s σ H xs us Q I r ⟨hdd, c, cv, b, e1, hcv, e, q⟩
  subst e1
  cases r with
  | cons rx rr =>
    cases rr with
    | cons rt rr =>
      cases rr
      cases rx
      have ec := hcv _ rt
      subst ec
      obtain ⟨hget, _⟩ := I.pin (a, oe) (List.mem_append.mpr (.inl List.mem_cons_self))
      obtain ⟨vs, hv⟩ := hf
      have hcl : (PySem.W.clsIn X.K D).isSome = true := by
        obtain ⟨cd, hc, _⟩ := PySem.W.any_some C.hd
        rw [hc]; rfl
      have J : ∃ od, PySem.W.InstAt s.heap a oe D od := by
        obtain ⟨oc, od, oda, osl⟩ := oe
        obtain ⟨h1, h2⟩ := hz
        dsimp only at h1 h2 hv
        subst h1 h2 hv
        cases od with
        | none => exact ⟨none, hget, rfl, rfl, trivial⟩
        | some dd =>
          obtain ⟨fs, hx⟩ := hdd dd rfl
          obtain ⟨mA, hns, _⟩ := (show ObjOk _ _ H s.heap dd (.xd fs) from I.hok dd _ hx)
          obtain ⟨o, _, _, ho, _⟩ := hns
          exact ⟨some o, hget, rfl, rfl, ho⟩
      obtain ⟨od, J⟩ := J
      exact PySem.W.kia_one (PySem.W.kitx_exc (od := od) hcl C.hg C.hk C.hs C.ha C.hn C.ht C.hm) I.kIn J e (fun z => nomatch z) fun tk => ⟨.bl b, H, I.kept (t' := tk) fun _ _ z => z, rfl, q⟩
def qIsE (i : Nat) (a : Addr) (b : Bool) (ρ : Env) (Q : T → Env → Prop) : Prop := ρ[i]? = some (.raw (.ref a)) ∧ Q (.d (.bool b)) ρ
theorem q_isE {c2 : Expr} {cv : V} {cu : Value} {b : Bool} (C : ExcC X.K D) (hz : Zc (.ref D) d oe) (hf : ∃ vs, oe.data = .fields vs) (hBd : ∀ G F, B.ok G F → ∀ dd, d = some dd → ∃ fs, F dd = some (.xd fs))
    (hm : X.mg "isinstance" = none) (he : PE (X.suite a ((a, oe) :: pn)) (.Name nm p) (tVar i)) (hc : PE (X.suite a ((a, oe) :: pn)) c2 (tC cv)) (hcv : ∀ u, RelV cv u → u = cu) (hk : PySem.W.kitOne X.K (.ref D) cu = some b)
    (hg : Gl X "isinstance") (h1 : starEach (.Name nm p :: [c2]) X.env = (false, eval (.Name nm p) X.env) :: starEach [c2] X.env := by rfl) (h2 : starEach [c2] X.env = (false, eval c2 X.env) :: starEach [] X.env := by rfl) (hpl : (backTo pos (starEach [c2] X.env)).any (·.1) = false := by rfl) :
    PE (X.suite a ((a, oe) :: pn)) (.Call (.Name "isinstance" pos') [.Name nm p, c2] [] pos) (lift X.K B (qIsE i a b)) :=
  weakE (pe_callB (X := X.suite a ((a, oe) :: pn)) (call_isX C hz hf) hg hm (by first | rfl | kernel_rfl) (pa_cons he (pa_cons hc pa_nil h2) h1) (by decide) (by decide) h1 hpl) fun σ H Q ⟨G, F, ρ, P, k, ⟨hi, h⟩, q⟩ =>
    ⟨.ref a, k.2.varRaw hi, fun dd hd => let ⟨fs, hx⟩ := hBd _ _ k.know dd hd; ⟨fs, k.2.f _ _ hx⟩, cv, cu, b, rfl, hcv, hk, q _ _ _ _ _ h (k.d (.bl b)) (Same.refl F)⟩
/-- e.f -/
def qFld (i : Nat) (a : Addr) (x : PyData) (ρ : Env) (Q : T → Env → Prop) : Prop := ρ[i]? = some (.raw (.ref a)) ∧ Q (.d x) ρ
theorem q_fld {dd : Addr} {v : V} {x : PyData} (T : XfC X.K D) (hno : PySem.W.findIn X.K (.ref D) f = some none) (hz : Zc (.ref D) (some dd) oe) (hf : ∃ vs, oe.data = .fields vs) (hBd : ∀ G F, B.ok G F → F dd = some (.xd [(f, v)]) ∧ Rp X.K F v x)
    (he : PE (X.suite a ((a, oe) :: pn)) (.Name nm p) (tVar i)) (hb : attributeBase (.Name nm p) f X.env (eval (.Name nm p) X.env) = eval (.Name nm p) X.env := by rfl) :
    PE (X.suite a ((a, oe) :: pn)) (.Attribute (.Name nm p) f pos) (lift X.K B (qFld i a x)) :=
  weakE (pe_xf T hno hz hf he hb) fun σ H Q ⟨G, F, ρ, P, k, ⟨hi, h⟩, q⟩ => let ⟨h1, h2⟩ := hBd _ _ k.know
    ⟨.ref a, k.2.varRaw hi, rfl, rfl, dd, [(f, v)], v, rfl, k.2.f _ _ h1, by simp [List.lookup], q _ _ _ _ _ h (k.d h2) (Same.refl F)⟩
end
end PL
namespace PL
open PySem PySem.Spec L2
open PyProof.Rows
section
variable {X : Cx} {B : Box} {i : Nat} {a D : Addr} {oe : Obj} {d : Option Addr} {pn : List (Addr × Obj)} {nm f : Str} {p pos pos' : Pos} {e : EX} {G0 F0 : Hp}
theorem q_isX {c2 : Expr} {cv : V} {cu : Value} {b : Bool} (he : e.c = .ref D) (C : ExcC X.K D) (hx : ExOk X.K F0 e e.c d) (hz : Zc e.c d oe) (hf : ∃ vs, oe.data = .fields vs)
    (hm : X.mg "isinstance" = none) (hv : PE (X.suite a ((a, oe) :: pn)) (.Name nm p) (tVar i)) (hc : PE (X.suite a ((a, oe) :: pn)) c2 (tC cv)) (hcv : ∀ u, RelV cv u → u = cu) (hk : PySem.W.kitOne X.K (.ref D) cu = some b)
    (hg : Gl X "isinstance") (h1 : starEach (.Name nm p :: [c2]) X.env = (false, eval (.Name nm p) X.env) :: starEach [c2] X.env := by rfl) (h2 : starEach [c2] X.env = (false, eval c2 X.env) :: starEach [] X.env := by rfl) (hpl : (backTo pos (starEach [c2] X.env)).any (·.1) = false := by rfl) :
    PE (X.suite a ((a, oe) :: pn)) (.Call (.Name "isinstance" pos') [.Name nm p, c2] [] pos) (lift X.K (B.at G0 F0) (qIsE i a b)) :=
  q_isE (B := B.at G0 F0) C (by rw [← he]; exact hz) hf (fun G F h dd hd => by
    have h2 := hx.2
    split at h2
    · rw [h2] at hd; cases hd
    · rename_i f _
      obtain ⟨a', v, e1, e2, _⟩ := h2
      rw [hd] at e1
      cases e1
      exact ⟨_, h.2 _ _ e2⟩) hm hv hc hcv hk hg h1 h2 hpl
theorem q_fldX (hok : e.c = .ref D ∧ ∃ x, e.fs = some (f, x)) (T : XfC X.K D) (hno : PySem.W.findIn X.K (.ref D) f = some none) (hx : ExOk X.K F0 e e.c d) (hz : Zc e.c d oe) (hf : ∃ vs, oe.data = .fields vs)
    (he : PE (X.suite a ((a, oe) :: pn)) (.Name nm p) (tVar i)) (hb : attributeBase (.Name nm p) f X.env (eval (.Name nm p) X.env) = eval (.Name nm p) X.env := by rfl) :
    PE (X.suite a ((a, oe) :: pn)) (.Attribute (.Name nm p) f pos) (lift X.K (B.at G0 F0) (qFld i a (e.fs.getD ("", .none)).2)) := by
  obtain ⟨h1, x, h2⟩ := hok
  have h3 := hx.2
  rw [h2] at h3
  obtain ⟨dd, v, e1, e2, e3⟩ := h3
  subst e1
  rw [h2]
  exact q_fld (B := B.at G0 F0) T hno (by rw [← h1]; exact hz) hf (fun G F h => ⟨h.2 _ _ e2, e3.mono h.2⟩) he hb
end
end PL

set_option Elab.async false
set_option linter.all false
set_option maxRecDepth 100000
/-! PX, part 4: for x in zip(s, t) over tuples, the pair kept by one name: the tuple last handed out is still about, or gone. -/
namespace PLz
open PySem PySem.Spec L2
open PyProof.Rows
section
variable {prog : Program} {w : World} {A : Around} {E : Value → Shared → Prop} {s : Shared} {z TI TO i1 i2 a b : Addr} {k : Nat} {xs ys : Array Value} {x y : Value}
abbrev IsZ (h : Heap) (z TI TO : Addr) (f0 f1 : Value) : Prop := h.get? z = some { cls := .type "zip", dict := none, data := .fields #[f0, f1, .bool false, .ref TI, .ref TO], slots := #[] }
theorem freeDead {W : Addr} {f1 : Value} {Q : Bool → Shared → Prop} (hz : IsZ s.heap z TI TO (rawInt W) f1) (hW : s.heap.get? W = none) (h : Q true s) : wpAny (model prog w) A (Builtin.SmallTypes.ownedTupleIsFree (.ref z)) Q E s := by
  unfold Builtin.SmallTypes.ownedTupleIsFree
  refine wpAny_bind (wpAny_field hz rfl (x := rawInt W) rfl ?_)
  show wpAny _ _ (loadIfAlive ((W : Int).toNat) >>= _) _ _ _
  rw [Int.toNat_natCast]
  refine wpAny_bind (m := loadIfAlive W) ?_
  have key : ∀ {Q' : Option Obj → Shared → Prop}, Q' none s → wpAny (model prog w) A (loadIfAlive W) Q' E s := fun {Q'} q => by
    have q' : Q' (s.heap.get? W) s := by rw [hW]; exact q
    exact fun _ _ _ => q'
  refine key ?_
  simp only [Option.isNone_none, if_true]
  exact wpAny_pure h
/-- the two ends of a turn of a zip whose own tuple is free: a pair, or the end -/
theorem nextDead {W : Addr} {f1 : Value} {c1 c2 : Value} {Q : Value → Shared → Prop} (D : ZipApart z TI TO i1 i2 a b) (hz : IsZ s.heap z TI TO (rawInt W) f1) (hW : s.heap.get? W = none) (hI : IsPair s.heap TI (.ref i1) (.ref i2)) (hO : IsPair s.heap TO c1 c2)
    (t1 : s.heap.IsTupleIter i1 a k) (t2 : s.heap.IsTupleIter i2 b k) (p1 : s.heap.IsTuple a xs) (p2 : s.heap.IsTuple b ys) (hx : xs[k]? = some x) (hy : ys[k]? = some y)
    (fin : ∀ h', IsZip h' z TI TO (rawInt s.heap.objs.size) → IsPair h' TO x y → h'.IsTupleIter i1 a (k + 1) → h'.IsTupleIter i2 b (k + 1) → IsPair h' s.heap.objs.size x y → (∀ c o, c ≠ z → c ≠ TO → c ≠ i1 → c ≠ i2 → s.heap.get? c = some o → h'.get? c = some o) → Q (.ref s.heap.objs.size) { s with heap := h' }) :
    wpAny (model prog w) A (Builtin.«zip.__next__» ⟨[.ref z], []⟩) (fun r s' => ∃ v, r = .done (.ret v) ∧ Q v s') E s := by
  show wpAny _ _ (field (.ref z) 2 >>= _) _ _ _
  refine wpAny_bind (wpAny_field hz rfl (x := .bool false) rfl ?_)
  show wpAny _ _ (field (.ref z) 3 >>= _) _ _ _
  refine wpAny_bind (wpAny_field hz rfl (x := .ref TI) rfl (wpAny_bind (wpAny_seqItems hI rfl ?_)))
  show wpAny _ _ (Builtin.SmallTypes.ownedTupleIsFree (.ref z) >>= _) _ _ _
  refine wpAny_bind (freeDead hz hW ?_)
  simp only [if_true]
  refine wpAny_bind (wpAny_rule (wpAny_bind (wpAny_field hz rfl (x := .ref TO) rfl (wpAny_bind (wpAny_setField_rec hz (by simp) fun g1 z1 s1 => ?_)))))
  replace z1 : IsZ g1 z TI TO .ellipsis f1 := z1
  refine wpAny_bind ?_
  simp only [List.zipIdx_cons, List.zipIdx_nil, List.forIn_cons, List.forIn_nil]
  refine wpAny_bind (wpAny_bind (wpAny_onRaise ?_))
  show wpAny _ _ (Builtin.SmallTypes.nextOf (.ref i1) >>= _) _ _ _
  refine wpAny_bind (RZ.nextOf_tuple_item (s := { s with heap := g1 }) (t1.extBut s1.extBut D.i1z) (p1.extBut s1.extBut D.l1z) hx fun g2 u1 s2 => wpAny_pure ?_)
  have o2 : IsPair g2 TO c1 c2 := s2.extBut _ _ D.TOi1 (s1.extBut _ _ D.TOz hO)
  refine wpAny_bind (wpAny_seqItems o2 rfl (wpAny_bind (wpAny_updateSeq_pair (s := { s with heap := g2 }) o2 fun g3 o3 s3 => wpAny_bind (wpAny_letGo (wpAny_pure ?_)))))
  replace o3 : IsPair g3 TO x c2 := o3
  refine wpAny_bind (wpAny_bind (wpAny_onRaise ?_))
  show wpAny _ _ (Builtin.SmallTypes.nextOf (.ref i2) >>= _) _ _ _
  have t2' : g3.IsTupleIter i2 b k := ((t2.extBut s1.extBut D.i2z).extBut s2.extBut D.i12.symm).extBut s3.extBut D.TOi2.symm
  have p2' : g3.IsTuple b ys := ((p2.extBut s1.extBut D.l2z).extBut s2.extBut D.l2i1).extBut s3.extBut D.l2TO
  refine wpAny_bind (RZ.nextOf_tuple_item (s := { s with heap := g3 }) t2' p2' hy fun g4 u2 s4 => wpAny_pure ?_)
  have o4 : IsPair g4 TO x c2 := s4.extBut _ _ D.TOi2 o3
  refine wpAny_bind (wpAny_seqItems o4 rfl (wpAny_bind (wpAny_updateSeq_pair (s := { s with heap := g4 }) o4 fun g5 o5 s5 => wpAny_bind (wpAny_letGo (wpAny_pure (wpAny_pure ?_))))))
  replace o5 : IsPair g5 TO x y := o5
  refine wpAny_bind (wpAny_seqItems o5 rfl (wpAny_bind (wpAny_newTuple ?_)))
  have sz : g5.objs.size = s.heap.objs.size := by rw [s5.1, s4.1, s3.1, s2.1, s1.1]
  have z5 : IsZ g5 z TI TO .ellipsis f1 := s5.extBut _ _ D.TOz.symm (s4.extBut _ _ D.i2z.symm (s3.extBut _ _ D.TOz.symm (s2.extBut _ _ D.i1z.symm z1)))
  have kp : ∀ c o, c ≠ z → c ≠ TO → c ≠ i1 → c ≠ i2 → s.heap.get? c = some o → g5.get? c = some o := fun c o n1 n2 n3 n4 e => s5.extBut _ _ n2 (s4.extBut _ _ n4 (s3.extBut _ _ n2 (s2.extBut _ _ n3 (s1.extBut _ _ n1 e))))
  have v1 : g5.IsTupleIter i1 a (k + 1) := ((u1.extBut s3.extBut D.TOi1.symm).extBut s4.extBut D.i12).extBut s5.extBut D.TOi1.symm
  have v2 : g5.IsTupleIter i2 b (k + 1) := u2.extBut s5.extBut D.TOi2.symm
  have zlt : z < g5.objs.size := Heap.lt_size z5
  show wpAny _ _ (Builtin.SmallTypes.ownedTupleHandOut (.ref z) (.ref g5.objs.size) >>= _) _ _ _
  refine wpAny_bind ?_
  unfold Builtin.SmallTypes.ownedTupleHandOut
  have z6 : IsZ (g5.push { cls := .type "tuple", data := .seq #[x, y] }) z TI TO .ellipsis f1 := Heap.get?_push_of_some _ z5
  refine wpAny_bind (wpAny_setField_rec (s := { s with heap := g5.push { cls := .type "tuple", data := .seq #[x, y] } }) z6 (by simp) fun g7 z7 s7 => ?_)
  replace z7 : IsZ g7 z TI TO (rawInt g5.objs.size) f1 := z7
  refine wpAny_setField_rec (s := { s with heap := g7 }) z7 (by simp) fun g8 z8 s8 => ?_
  replace z8 : IsZip g8 z TI TO (rawInt g5.objs.size) := z8
  have up : ∀ c o, c ≠ z → g5.get? c = some o → g8.get? c = some o := fun c o n e => s8.extBut _ _ n (s7.extBut _ _ n (Heap.get?_push_of_some _ e))
  have new : IsPair g8 g5.objs.size x y := s8.extBut _ _ (Nat.ne_of_gt zlt) (s7.extBut _ _ (Nat.ne_of_gt zlt) (Heap.get?_push_size _ rfl))
  rw [sz] at z8 new
  refine wpAny_pure ⟨_, rfl, ?_⟩
  show Q (.ref g5.objs.size) _
  rw [sz]
  exact fin g8 z8 (up _ _ D.TOz o5) (v1.at fun o e => up _ o D.i1z e) (v2.at fun o e => up _ o D.i2z e) new fun c o n1 n2 n3 n4 e => up c o n1 (kp c o n1 n2 n3 n4 e)
theorem endDead {W : Addr} {f1 : Value} {c1 c2 : Value} {Q : Fin → Shared → Prop} (hh : A.handled = none) (D : ZipApart z TI TO i1 i2 a b) (hz : IsZ s.heap z TI TO (rawInt W) f1) (hW : s.heap.get? W = none) (hI : IsPair s.heap TI (.ref i1) (.ref i2)) (hO : IsPair s.heap TO c1 c2)
    (t1 : s.heap.IsTupleIter i1 a k) (t2 : s.heap.IsTupleIter i2 b k) (p1 : s.heap.IsTuple a xs) (p2 : s.heap.IsTuple b ys) (hend : xs[k]? = none ∨ ys[k]? = none)
    (fin : ∀ h' e, (∀ c o, c ≠ z → c ≠ TO → c ≠ i1 → c ≠ i2 → s.heap.get? c = some o → h'.get? c = some o) → (∃ o, h'.get? e = some o ∧ o.cls = .type "StopIteration") → E (.ref e) { s with heap := h' }) :
    wpAny (model prog w) A (Builtin.«zip.__next__» ⟨[.ref z], []⟩) Q E s := by
  show wpAny _ _ (field (.ref z) 2 >>= _) _ _ _
  refine wpAny_bind (wpAny_field hz rfl (x := .bool false) rfl ?_)
  show wpAny _ _ (field (.ref z) 3 >>= _) _ _ _
  refine wpAny_bind (wpAny_field hz rfl (x := .ref TI) rfl (wpAny_bind (wpAny_seqItems hI rfl ?_)))
  show wpAny _ _ (Builtin.SmallTypes.ownedTupleIsFree (.ref z) >>= _) _ _ _
  refine wpAny_bind (freeDead hz hW ?_)
  simp only [if_true]
  refine wpAny_bind (wpAny_rule (wpAny_bind (wpAny_field hz rfl (x := .ref TO) rfl (wpAny_bind (wpAny_setField_rec hz (by simp) fun g1 z1 s1 => ?_)))))
  replace z1 : IsZ g1 z TI TO .ellipsis f1 := z1
  refine wpAny_bind ?_
  simp only [List.zipIdx_cons, List.zipIdx_nil, List.forIn_cons, List.forIn_nil]
  refine wpAny_bind (wpAny_bind (wpAny_onRaise ?_))
  show wpAny _ _ (Builtin.SmallTypes.nextOf (.ref i1) >>= _) _ _ _
  have last : ∀ (g : Heap) (e : Addr), IsZ g z TI TO .ellipsis f1 → (∃ o, g.get? e = some o ∧ o.cls = .type "StopIteration") → (∀ c o, c ≠ z → c ≠ TO → c ≠ i1 → c ≠ i2 → s.heap.get? c = some o → g.get? c = some o) →
      wpAny (model prog w) A (setField (.ref z) 0 .none) (fun _ s' => E (.ref e) s') E { s with heap := g } := fun g e hz2 ⟨oe, he, hc⟩ kp =>
    wpAny_setField_rec (s := { s with heap := g }) hz2 (by simp) fun g' _ s' => fin g' e (fun c o n1 n2 n3 n4 q => s'.extBut _ _ n1 (kp c o n1 n2 n3 n4 q)) ⟨oe, s'.extBut _ _ (fun q => by subst q; rw [hz2] at he; cases he; simp at hc) he, hc⟩
  cases hx : xs[k]? with
  | none => exact wpAny_bind (RZ.nextOf_tuple_end (s := { s with heap := g1 }) hh (t1.extBut s1.extBut D.i1z) (p1.extBut s1.extBut D.l1z) hx fun g2 e s2 he => last g2 e (s2 _ _ D.i1z.symm z1) he fun c o n1 _ n3 _ q => s2 _ _ n3 (s1.extBut _ _ n1 q))
  | some x =>
    have hy : ys[k]? = none := hend.resolve_left (by rw [hx]; exact fun q => nomatch q)
    refine wpAny_bind (RZ.nextOf_tuple_item (s := { s with heap := g1 }) (t1.extBut s1.extBut D.i1z) (p1.extBut s1.extBut D.l1z) hx fun g2 u1 s2 => wpAny_pure ?_)
    have o2 : IsPair g2 TO c1 c2 := s2.extBut _ _ D.TOi1 (s1.extBut _ _ D.TOz hO)
    refine wpAny_bind (wpAny_seqItems o2 rfl (wpAny_bind (wpAny_updateSeq_pair (s := { s with heap := g2 }) o2 fun g3 o3 s3 => wpAny_bind (wpAny_letGo (wpAny_pure ?_)))))
    refine wpAny_bind (wpAny_bind (wpAny_onRaise ?_))
    show wpAny _ _ (Builtin.SmallTypes.nextOf (.ref i2) >>= _) _ _ _
    have t2' : g3.IsTupleIter i2 b k := ((t2.extBut s1.extBut D.i2z).extBut s2.extBut D.i12.symm).extBut s3.extBut D.TOi2.symm
    have p2' : g3.IsTuple b ys := ((p2.extBut s1.extBut D.l2z).extBut s2.extBut D.l2i1).extBut s3.extBut D.l2TO
    exact wpAny_bind (RZ.nextOf_tuple_end (s := { s with heap := g3 }) hh t2' p2' hy fun g4 e s4 he => last g4 e (s4 _ _ D.i2z.symm (s3.extBut _ _ D.TOz.symm (s2.extBut _ _ D.i1z.symm z1))) he fun c o n1 n2 n3 n4 q => s4 _ _ n4 (s3.extBut _ _ n2 (s2.extBut _ _ n3 (s1.extBut _ _ n1 q))))
/-- the zip as it stands, whatever became of the tuple last handed out -/
structure AtN (h : Heap) (z TI TO i1 i2 a b : Addr) (k : Nat) : Prop where
  out : IsZip h z TI TO .none ∨ ∃ W fl, IsZipHeld h z TI TO W fl
  ti : IsPair h TI (.ref i1) (.ref i2)
  to : ∃ x y, IsPair h TO x y
  t1 : h.IsTupleIter i1 a k
  t2 : h.IsTupleIter i2 b k
theorem AtN.ty (h : AtN s.heap z TI TO i1 i2 a b k) : s.TypeIs (.ref z) "zip" := by
  rcases h.out with q | ⟨W, fl, q⟩
  · exact ⟨_, q, rfl⟩
  · exact ⟨_, q, rfl⟩
theorem AtN.keep {h h' : Heap} (t : AtN h z TI TO i1 i2 a b k) (kp : ∀ c ∈ [z, TI, TO, i1, i2], ∀ o, h.get? c = some o → h'.get? c = some o) : AtN h' z TI TO i1 i2 a b k := by
  obtain ⟨out, ti, ⟨x, y, to⟩, t1, t2⟩ := t
  refine ⟨?_, kp TI (by simp) _ ti, ⟨x, y, kp TO (by simp) _ to⟩, t1.at fun o e => kp i1 (by simp) o e, t2.at fun o e => kp i2 (by simp) o e⟩
  rcases out with q | ⟨W, fl, q⟩
  · exact .inl (kp z (by simp) _ q)
  · exact .inr ⟨W, fl, kp z (by simp) _ q⟩
theorem nextN {Q : Option Value → Shared → Prop} (D : ZipApart z TI TO i1 i2 a b) (t : AtN s.heap z TI TO i1 i2 a b k) (p1 : s.heap.IsTuple a xs) (p2 : s.heap.IsTuple b ys) (hx : xs[k]? = some x) (hy : ys[k]? = some y)
    (fin : ∀ h', AtN h' z TI TO i1 i2 a b (k + 1) → IsPair h' s.heap.objs.size x y → (∀ c o, c ∉ [z, TI, TO, i1, i2] → s.heap.get? c = some o → h'.get? c = some o) → Q (some (.ref s.heap.objs.size)) { s with heap := h' }) : wpAny (model prog w) A (pyNext (.ref z)) Q E s := by
  have hT := t.ty
  obtain ⟨out, ti, ⟨c1, c2, to⟩, t1, t2⟩ := t
  have nm : ∀ {c : Addr}, c ∉ [z, TI, TO, i1, i2] → c ≠ z ∧ c ≠ TI ∧ c ≠ TO ∧ c ≠ i1 ∧ c ≠ i2 := fun h => by simpa using h
  unfold pyNext
  refine wpAny_bind (wpAny_attempt (wpAny_callSpecial?_slot (name := Str.ofString "__next__") hT F.slot_zip_next (wpAny_call_entry F.slot_zip_next hT F.entry_zip_next ?_ (F.args_zip_next_1 _))))
  rcases out with out | ⟨W, fl, out⟩
  · refine RZ.zipT_next_item D out ti to t1 t2 p1 p2 hx hy fun h' a1 a2 a3 a4 a5 a6 a7 => wpAny_pure (fin h' ⟨.inr ⟨_, false, a1⟩, a7 _ _ D.TIz D.TITO D.TIi1 D.TIi2 ti, ⟨_, _, a2⟩, a3, a4⟩ a5 fun c o hc e => ?_)
    obtain ⟨q1, _, q2, q3, q4⟩ := nm hc
    exact a7 c o q1 q2 q3 q4 e
  · cases hW : s.heap.get? W with
    | some oW =>
      refine nextHeld D out hW ti t1 t2 p1 p2 hx hy fun h' a1 a2 a3 a4 a5 => wpAny_pure (fin h' ⟨.inr ⟨W, true, a1⟩, a5 _ _ D.TIz D.TIi1 D.TIi2 ti, ⟨_, _, a5 _ _ D.TOz D.TOi1 D.TOi2 to⟩, a2, a3⟩ a4 fun c o hc e => ?_)
      obtain ⟨q1, _, q2, q3, q4⟩ := nm hc
      exact a5 c o q1 q3 q4 e
    | none =>
      refine nextDead D out hW ti to t1 t2 p1 p2 hx hy fun h' a1 a2 a3 a4 a5 a7 => wpAny_pure (fin h' ⟨.inr ⟨_, false, a1⟩, a7 _ _ D.TIz D.TITO D.TIi1 D.TIi2 ti, ⟨_, _, a2⟩, a3, a4⟩ a5 fun c o hc e => ?_)
      obtain ⟨q1, _, q2, q3, q4⟩ := nm hc
      exact a7 c o q1 q2 q3 q4 e
theorem endN {Q : Option Value → Shared → Prop} (hh : A.handled = none) (D : ZipApart z TI TO i1 i2 a b) (t : AtN s.heap z TI TO i1 i2 a b k) (p1 : s.heap.IsTuple a xs) (p2 : s.heap.IsTuple b ys) (hend : xs[k]? = none ∨ ys[k]? = none)
    (fin : ∀ h', (∀ c o, c ∉ [z, TI, TO, i1, i2] → s.heap.get? c = some o → h'.get? c = some o) → Q none { s with heap := h' }) : wpAny (model prog w) A (pyNext (.ref z)) Q E s := by
  have hT := t.ty
  obtain ⟨out, ti, ⟨c1, c2, to⟩, t1, t2⟩ := t
  have nm : ∀ {c : Addr}, c ∉ [z, TI, TO, i1, i2] → c ≠ z ∧ c ≠ TI ∧ c ≠ TO ∧ c ≠ i1 ∧ c ≠ i2 := fun h => by simpa using h
  unfold pyNext
  refine wpAny_bind (wpAny_attempt (wpAny_callSpecial?_slot (name := Str.ofString "__next__") hT F.slot_zip_next (wpAny_call_entry F.slot_zip_next hT F.entry_zip_next ?_ (F.args_zip_next_1 _))))
  have stop : ∀ (h' : Heap) (e : Addr), (∀ c o, c ≠ z → c ≠ TO → c ≠ i1 → c ≠ i2 → s.heap.get? c = some o → h'.get? c = some o) → (∃ o, h'.get? e = some o ∧ o.cls = .type "StopIteration") →
      wpAny (model prog w) A (do if (← isInstance (.ref e) (.type "StopIteration")) = true then pure (none : Option Value) else throw (.ref e)) Q E { s with heap := h' } := fun h' e kp ⟨o, ho, hc⟩ =>
    wpAny_bind (wpAny_isInstance (T := "StopIteration") (b := true) ⟨o, ho, hc⟩ isSubtype_stop (by
      rw [if_pos rfl]
      refine wpAny_pure (fin h' fun c o hc e => ?_)
      obtain ⟨q1, _, q2, q3, q4⟩ := nm hc
      exact kp c o q1 q2 q3 q4 e))
  rcases out with out | ⟨W, fl, out⟩
  · exact RZ.zipT_next_end hh D out ti to t1 t2 p1 p2 hend fun h' e kp he => stop h' e kp he
  · cases hW : s.heap.get? W with
    | some oW => exact endHeld hh D out hW ti t1 t2 p1 p2 hend fun h' e kp he => stop h' e (fun c o n1 n2 n3 n4 q => kp c o n1 n3 n4 q) he
    | none => exact endDead hh D out hW ti to t1 t2 p1 p2 hend fun h' e kp he => stop h' e kp he
theorem letGoName {x : Str} {pos : Pos} {it v : Value} {Q : Unit → Shared → Prop} (h : Q () s) : wpAny (model prog w) A (letOwnedTupleGo (.Name x pos) it v) Q E s := wpAny_pure h
end
open L2 in
theorem turnN {P : Program} {w : World} {K : PySem.W.Frag} {nm : Str} {pos : Pos} {a b z TI TO i1 i2 : Addr} (D : ZipApart z TI TO i1 i2 a b) : Turn P w K (.Name nm pos) (RZ.ItzT K a b) [z, TI, TO, i1, i2] z (fun i h => AtN h z TI TO i1 i2 a b i) where
  mem := by simp
  obj := fun i h st c hc => by
    obtain ⟨out, ti, ⟨x, y, to⟩, ⟨o1, e1, _, d1⟩, ⟨o2, e2, _, d2⟩⟩ := st
    have e' : c = z ∨ c = TI ∨ c = TO ∨ c = i1 ∨ c = i2 := by simpa using hc
    rcases e' with q | q | q | q | q
    · rw [q]
      rcases out with out | ⟨W, fl, out⟩
      · exact ⟨_, out, fun v q => nomatch q⟩
      · exact ⟨_, out, fun v q => nomatch q⟩
    · rw [q]; exact ⟨_, ti, fun v q => nomatch q⟩
    · rw [q]; exact ⟨_, to, fun v q => nomatch q⟩
    · rw [q]; exact ⟨o1, e1, fun v q => by rw [d1] at q; cases q⟩
    · rw [q]; exact ⟨o2, e2, fun v q => by rw [d2] at q; cases q⟩
  keep := fun i h h' st k => st.keep k
  item := by
    intro X hP hw hK hc i pins s σ H E I hf st hg
    subst hP hw hK
    obtain ⟨xs, ys, x, y, hqx, hqy, hx, hy⟩ := hg
    obtain ⟨its, rv, p, _⟩ := I.tuple hqx
    obtain ⟨its2, rv2, p2, _⟩ := I.tuple hqy
    obtain ⟨u, hu, ru⟩ := rv.get hx
    obtain ⟨u2, hu2, ru2⟩ := rv2.get hy
    refine nextN (x := u) (y := u2) D st p p2 (by simpa using hu) (by simpa using hu2) fun h' st' hT hk => ⟨_, rfl, letGoName ?_⟩
    have new : ObjOk X.prog X.w (upd H s.heap.objs.size (.tup [x, y])) h' s.heap.objs.size (.tup [x, y]) := ⟨by show 2 ≤ sizeLine; decide, [u, u2], .cons ru (.cons ru2 .nil), ⟨_, hT, rfl, _, rfl⟩⟩
    have I1 : Inv X pins σ (upd H s.heap.objs.size (.tup [x, y])) { s with heap := h' } := I.turnedNew (t' := s.toks) (ch := [z, TI, TO, i1, i2]) (fun c o hb q => hk c o hb q) hf (Nat.le_refl _) new
    refine ⟨.ref s.heap.objs.size, _, I1, rfl, ⟨_, x, y, rfl, I.hok.fresh (Nat.le_refl _), rfl, fun l hl => by rw [I.tuple_inj hl hqx]; exact hx, fun l hl => by rw [I.tuple_inj hl hqy]; exact hy⟩, st', fun c hcm => ?_⟩
    have hlt : c < s.heap.objs.size := by
      obtain ⟨out, ti, ⟨x, y, to⟩, ⟨o1, e1, _, d1⟩, ⟨o2, e2, _, d2⟩⟩ := st
      have e' : c = z ∨ c = TI ∨ c = TO ∨ c = i1 ∨ c = i2 := by simpa using hcm
      rcases e' with q | q | q | q | q
      · rw [q]
        rcases out with out | ⟨W, fl, out⟩
        · exact Heap.lt_size out
        · exact Heap.lt_size out
      · rw [q]; exact Heap.lt_size ti
      · rw [q]; exact Heap.lt_size to
      · rw [q]; exact Heap.lt_size e1
      · rw [q]; exact Heap.lt_size e2
    rw [upd_ne (Nat.ne_of_lt hlt)]
    exact (hf c hcm).1
  done := by
    intro X hP hw hK hc i pins s σ H E I hf st hg
    subst hP hw hK
    obtain ⟨xs, ys, hqx, hqy, hend⟩ := hg
    obtain ⟨its, rv, p, _⟩ := I.tuple hqx
    obtain ⟨its2, rv2, p2, _⟩ := I.tuple hqy
    have l1 := rv.length
    have l2 := rv2.length
    have he : its.toArray[i]? = none ∨ its2.toArray[i]? = none := by
      rcases hend with q | q
      · exact .inl (by simp; omega)
      · exact .inr (by simp; omega)
    exact endN (I.ok.hd hc) D st p p2 he fun h' hk => ⟨rfl, I.turnedL (t' := s.toks) (ch := [z, TI, TO, i1, i2]) (fun c o hb q => hk c o hb q) hf⟩
  self := fun A i s Q E st h => wpAny_pyIter_slot st.ty F.slot_zip_iter (wpAny_call_entry F.slot_zip_iter st.ty F.entry_zip_iter (by
    show wpAny _ _ (ret (.ref z)) _ _ s
    exact wpAny_pure ⟨_, rfl, "zip", _, st.ty, F.slot_zip_next.lookup, h⟩) (F.args_zip_iter_1 _))
open L2 in
theorem pi_zipN {X : Cx} {e e2 : Expr} {ta : TA} {nm : Str} {p pos tpos : Pos} (hg : Gl X "zip") (hm : X.mg "zip" = none) (ha : PA X [e, e2] ta)
    (hs : starEach [e, e2] X.env = (false, eval e X.env) :: starEach [e2] X.env := by rfl) (hpl : (backTo pos (starEach [e2] X.env)).any (·.1) = false := by rfl) :
    PI X (.Name nm tpos) (.Call (.Name "zip" p) [e, e2] [] pos) (fun σ H R => ta σ H fun vs H1 => ∃ a b xs ys, vs = [.ref a, .ref b] ∧ SqT X.K H1 a xs ∧ SqT X.K H1 b ys ∧ R (RZ.ItzT X.K a b) H1) := by
  refine ⟨fun pins s σ H R I h => Call_ (ld_blt I hg hm boot_zip (callWith_type1 (thn (ha.run pos pins s σ H _ I h) fun us s1 ⟨vs, H1, I1, r1, a, b, xs, ys, ex, hqx, hqy, q⟩ => ?_) hs hpl))⟩
  subst ex
  cases r1 with
  | cons r rr =>
    cases rr with
    | cons r' rr =>
      cases rr
      cases r
      cases r'
      have far : ∀ c, c ∈ [s1.heap.objs.size + 4, s1.heap.objs.size + 2, s1.heap.objs.size + 3, s1.heap.objs.size, s1.heap.objs.size + 1] → FpOk X pins H1 c := fun c hcm => by
        have hle : s1.heap.objs.size ≤ c := by
          have e' : c = s1.heap.objs.size + 4 ∨ c = s1.heap.objs.size + 2 ∨ c = s1.heap.objs.size + 3 ∨ c = s1.heap.objs.size ∨ c = s1.heap.objs.size + 1 := by simpa using hcm
          rcases e' with z | z | z | z | z <;> rw [z]
          all_goals first | exact Nat.le_add_right _ _ | exact Nat.le_refl _
        exact I1.fpOk hle (I1.hok.fresh hle)
      obtain ⟨its, rv, p1, _⟩ := I1.tuple hqx
      obtain ⟨its2, rv2, p2, _⟩ := I1.tuple hqy
      obtain ⟨o1, ho1, _⟩ := id p1
      obtain ⟨o2, ho2, _⟩ := id p2
      refine RZ.call_zipT (show s1.heap.IsTuple a its.toArray from p1) (show s1.heap.IsTuple b its2.toArray from p2) fun h' hz hTI hTO h1 h2 hsz hk => wpAny_pyIter_zip hz ?_
      exact ⟨s1.heap.objs.size + 4, _, _, _, H1, rfl, I1.kept (t' := s1.toks) hk, turnN (PySem.W.ktu_apart s1.heap.objs.size a b (Heap.lt_size ho1) (Heap.lt_size ho2)), ⟨.inl hz, hTI, ⟨_, _, hTO⟩, h1, h2⟩, far, q⟩
end PLz
namespace PL
open PySem PySem.Spec L2
section
variable {X : Cx} {B : Box} {e e2 : Expr} {ta : QA} {p pos tpos : Pos} {nm : Str}
def iZN (ta : QA) (ρ : Env) (Q : List PyData → Env → Prop) : Prop := ta ρ fun ws ρ' => match wsD ws with
  | some [.tuple as, .tuple bs] => Q (zipD as bs) ρ'
  | _ => False
theorem i_zipN (hg : Gl X "zip") (hm : X.mg "zip" = none) (ha : PA X [e, e2] (liftA X.K B ta)) (hs : starEach [e, e2] X.env = (false, eval e X.env) :: starEach [e2] X.env := by rfl) (hpl : (backTo pos (starEach [e2] X.env)).any (·.1) = false := by rfl) :
    PI X (.Name nm tpos) (.Call (.Name "zip" p) [e, e2] [] pos) (liftI X.K B (iZN ta)) :=
  weakI (PLz.pi_zipN hg hm ha hs hpl) fun σ H R ⟨G, F, ρ, P, k, h, q⟩ => liftA_use k h fun ws ρ' vs H' F' p k' w e => by
    split at p
    · rename_i as bs g
      obtain ⟨x, y, rfl, r1, r2⟩ := (wsD_ok w g).two
      cases r1 with
      | tup h1 r1 =>
        cases r2 with
        | tup h2 r2 =>
          refine ⟨_, _, _, _, rfl, same_t k'.2.f h1, same_t k'.2.f h2, q _ _ _ _ _ p k' e (wk_pair walkZT (fun H s => ⟨same_t s h1, same_t s h2⟩) (by rw [zipD_len, r1.length, r2.length]) fun i x y hi e1 e2 => ?_)⟩
          obtain ⟨d, hd, rd⟩ := r1.getV e1
          obtain ⟨d', hd', rd'⟩ := r2.getV e2
          exact ⟨d, d', zipD_get hd hd', rd, rd'⟩
    · exact p.elim
end
end PL

set_option Elab.async false
set_option linter.all false
set_option maxRecDepth 100000
/-! PLt: plain lemmas for the walks, in one set (that of bitvec_to_nat, whose own ones say nothing here). -/
namespace PL
section
universe u v
variable {α : Type u} {β : Type v}
theorem z1 {f : α → β} {a : α} : Option.map f (some a) = some (f a) := rfl
theorem z2 {f : α → β} : Option.map f none = none := rfl
theorem z3 {a b : α} : (some a).getD b = a := rfl
theorem z4 {b : α} : (none : Option α).getD b = b := rfl
theorem z5 {a : α} {l : List α} : (a :: l)[0]? = some a := rfl
theorem z6 {a : α} {l : List α} {i : Nat} : (a :: l)[i + 1]? = l[i]? := rfl
theorem z7 {i : Nat} : ([] : List α)[i]? = none := rfl
theorem z8 {f : α → β} {l : List α} {i : Nat} : (l.map f)[i]? = (l[i]?).map f := List.getElem?_map
theorem z9 {a b : α} {l : List α} : (a :: l).set 0 b = b :: l := rfl
theorem z10 {a b : α} {l : List α} {i : Nat} : (a :: l).set (i + 1) b = a :: l.set i b := rfl
theorem z11 {a : α} {l : List α} : (a :: l).length = l.length + 1 := rfl
theorem z12 : ([] : List α).length = 0 := rfl
theorem z13 {f : α → β} {l : List α} : (l.map f).length = l.length := List.length_map _
theorem z14 {f : α → β} {a : α} {l : List α} : (a :: l).map f = f a :: l.map f := rfl
theorem z15 {f : α → β} : ([] : List α).map f = [] := rfl
theorem z16 {a : α} {l m : List α} : (a :: l) ++ m = a :: (l ++ m) := rfl
theorem z17 {m : List α} : [] ++ m = m := rfl
theorem z18 {m : List α} : m ++ [] = m := List.append_nil _
theorem z19 {a b : α} {l : List α} : (a :: l).getD 0 b = a := rfl
theorem z20 {a b : α} {l : List α} {i : Nat} : (a :: l).getD (i + 1) b = l.getD i b := rfl
theorem z21 {a b : α} : (if True then a else b) = a := if_pos trivial
theorem z22 {a b : α} : (if False then a else b) = b := if_neg id
theorem z23 : (false = true) = False := Bool.false_eq_true
theorem z24 : (true = false) = False := Bool.true_eq_false
theorem z25 (p : Prop) : (p ∧ True) = p := and_true p
theorem z26 (p : Prop) : (True ∧ p) = p := true_and p
theorem z27 (p : Prop) : (p ∧ p) = p := and_self p
theorem z28 (n : Nat) : 0 + n = n := Nat.zero_add n
theorem z29 {b : Prop} [Nonempty α] : (∃ _ : α, b) ↔ b := exists_const α
theorem z30 (a : α) : (a = a) = True := eq_self a
end
end PL
namespace PL
open PySem PySem.Spec L2
/-- while, its test told apart -/
theorem whileT {c : QT} {tb : QS} {DP : PEnds} {ρ : Env} (W : Nat → Env → Prop) (C : Nat → Env → Bool → Prop) (h0 : ∃ m, W m ρ) (h1 : ∀ m ρ, W m ρ → ∀ R : Bool → Env → Prop, (∀ b, C m ρ b → R b ρ) → c ρ R)
    (hb : ∀ m ρ, W m ρ → C m ρ true → tb { DP with nx := fun ρ' => ∃ m', m' < m ∧ W m' ρ', ct := fun ρ' => ∃ m', m' < m ∧ W m' ρ', bk := DP.nx } ρ) (hx : ∀ m ρ, W m ρ → C m ρ false → DP.nx ρ) : sWhile c tb DP ρ :=
  ⟨W, h0, fun m ρ w => h1 m ρ w _ fun b cb => by
    cases b with
    | true => exact hb m ρ w cb
    | false => exact hx m ρ w cb⟩
theorem eqv_bb (a b : Bool) : PyData.eqv (.bool a) (.bool b) = decide (a = b) := by cases a <;> cases b <;> rfl
/-- a statement, then the rest: whatever comes behind -/
theorem one_toR {t : QS} {DP : PEnds} {ρ : Env} (I : Env → Prop) (h1 : ∀ N : Env → Prop, (∀ ρ', I ρ' → N ρ') → t { DP with nx := N } ρ) (h2 : ∀ ρ', I ρ' → DP.nx ρ') : t DP ρ := h1 _ h2
end PL

set_option Elab.async false
set_option linter.all false
set_option maxRecDepth 100000
/-! PX, part 5: {(a, b): v}, a dict display with one key, a tuple of ints and texts. -/
namespace PL
open PySem PySem.Spec L2
open PyProof.Rows
def tDisp1T (tk tv : TE) : TE := fun σ H Q => ∀ p, H p = none → tk σ (upd H p (.dT [])) fun x H1 => tv σ H1 fun y H2 => H2 p = some (.dT []) ∧ ∃ (ks : List Key) (b : Addr), x = .ref b ∧ H2 b = some (.tup (ks.map kV)) ∧ Q (.ref p) (upd H2 p (.dT [(ks, y)]))
theorem pe_disp1T {X : Cx} {pos : Pos} {k v : Expr} {tk tv : TE} (hu : X.A.units < cLine) (hk : PE X k tk) (hv : PE X v tv) : PE X (.Dict [some k] [v] pos) (tDisp1T tk tv) := by
  refine ⟨fun pins s σ H Q I q => ?_⟩
  have hn := I.hok.fresh (Nat.le_refl s.heap.objs.size)
  have I1 := I.laid (a := s.heap.objs.size) (o := .dT []) (h' := s.heap.push { cls := .type "dict", data := .dict #[] }) (t' := s.toks) (fun _ _ q => Heap.get?_push_of_some _ q) (Nat.le_refl _) (dt_empty s.heap I.big)
  have hn1 := pairTrees_length [some k] [v] X.env pos rfl rfl
  rw [arm_eval_Dict, zip_pairTrees [some k] [v] X.env pos rfl rfl, dictDisplay_pairs (pairTrees [some k] [v] X.env pos) (fun e => by rw [e] at hn1; cases hn1) (by rw [hn1]; simp)]
  refine wpAny_bind (wpAny_standAt (wpAny_bind (wpAny_subDictH (knd := tupleKind (mixKind X.prog X.w)) hu (by rw [hn1]; simp) ?_)))
  refine pairTrees_cons_walk (thn (hk.run pins _ σ _ _ I1 (q _ hn)) fun u s1 ⟨x, H1, I1, rx, q1⟩ => thn (hv.run pins s1 σ H1 _ I1 q1) fun w2 s2 ⟨y, H2, I2, ry, e, ks, b, ex, eb, q2⟩ => pairTrees_nil_walk ?_)
  subst ex
  obtain rfl : u = Value.ref b := rx
  obtain ⟨z, hd, xs0, r0, dd⟩ := dt_of I2.hok e
  cases r0
  refine ⟨[(ks, b, w2)], ⟨rfl, rfl, key_of I2.hok eb, True.intro⟩, dd, fun h' tk' dd' hs => wpAny_pure ⟨.ref s.heap.objs.size, _, ?_, rfl, q2⟩⟩
  obtain ⟨o, es, ep, ho, h2, h3, h4, _, h5⟩ := dd'
  refine d_write I2 (by rw [e]; exact True.intro) hs ⟨o, ho⟩ ⟨by show 1 ≤ sizeLine; decide, hd, _, .cons ⟨rfl, ?_, ry⟩ .nil, o, es, ep, ho, h2, h3, h4, h5⟩
  show upd H2 s.heap.objs.size (.dT [(ks, y)]) b = _
  rw [upd_ne (ne_of eb e (fun z => nomatch z))]
  exact eb
section
variable {X : Cx} {B : Box} {pos : Pos} {e1 e2 : Expr} {tk tv : QE}
def qDisp1T (tk tv : QE) (ρ : Env) (Q : T → Env → Prop) : Prop := tk ρ fun a ρ1 => tv ρ1 fun b ρ2 => match a.w, b.w with
  | .d x, .d y => match keysOf x with
    | some ks => Q (.kt [(ks, y)]) ρ2
    | none => False
  | _, _ => False
theorem q_disp1T (hu : X.A.units + 64 < cLine) (hk : PE X e1 (lift X.K B tk)) (hv : PE X e2 (lift X.K B tv)) : PE X (.Dict [some e1] [e2] pos) (lift X.K B (qDisp1T tk tv)) :=
  weakE (pe_disp1T (by omega) hk hv) fun σ H Q ⟨G, F, ρ, P, k, h, q⟩ => fun a ha => by
    have hG : G a = none := (k.2.free ha).2
    refine lift_use (k.lendO ha (.dT [])) h fun r1 ρ1 x H1 F1 h1 k1 w1 s1 => lift_use k1 h1 fun r2 ρ2 y H2 F2 h2 k2 w2 s2 => ?_
    split at h2
    · rename_i x0 y0 g1 g2
      rw [g1] at w1
      rw [g2] at w2
      split at h2
      · rename_i ks g3
        have w1' : Rp X.K F2 x x0 := Rp.mono s2 w1
        obtain ⟨b, rfl, hb⟩ := keys_t w1' g3
        refine ⟨k2.2.g a _ upd_same, ks, b, rfl, k2.2.f _ _ hb, q _ _ _ _ _ h2 ⟨k2.1, k2.2.backO hG (B.okF k.2.bx (s1.trans s2)) ⟨a, _, rfl, upd_same, .cons w2 .nil, fun b => Iff.rfl⟩, fun i z => nomatch z⟩ (s1.trans s2)⟩
      · exact h2.elim
    · exact h2.elim
end
end PL

set_option Elab.async false
set_option linter.all false
set_option maxRecDepth 100000
/-! PX, part 6: zip of any two of lists, tuples, texts; zip of one of these with a zip of tuples. -/
namespace PLz
open PySem PySem.Spec L2
open PyProof.Rows
/-- what zip goes along -/
inductive Src where
  | l (a : Addr) | t (a : Addr) | s (x : Str)
def Src.v : Src → V
  | .l a => .ref a
  | .t a => .ref a
  | .s x => .str x
def strVs (x : Str) : List V := x.cps.toList.map fun c => V.str ⟨#[c]⟩
def Src.has (K : PySem.W.Frag) (H : Hp) : Src → List V → Prop
  | .l a, xs => SqL K H a xs
  | .t a, xs => SqT K H a xs
  | .s x, xs => xs = strVs x
def Src.below (n : Addr) : Src → Prop
  | .l a => a < n
  | .t a => a < n
  | .s _ => True
def Src.tn : Src → Addr → Nat → Heap → Prop
  | .l a, it, i, h => h.IsListIter it a i
  | .t a, it, i, h => h.IsTupleIter it a i
  | .s x, it, i, h => ∃ t, h.IsStrIter it (strIterType x) x t i
theorem vals_back {xs : List V} {us : List Value} {i : Nat} {u : Value} (r : Vals xs us) (e : us[i]? = some u) : ∃ x, xs[i]? = some x ∧ RelV x u := by
  have hl := r.length
  obtain ⟨h1, h2⟩ := List.getElem?_eq_some_iff.mp e
  have hd : xs[i]? = some (xs[i]'(by omega)) := List.getElem?_eq_getElem (by omega)
  obtain ⟨u', e', h⟩ := r.get hd
  rw [e] at e'
  cases e'
  exact ⟨_, hd, h⟩
theorem Src.obj {S : Src} {it : Addr} {i : Nat} {h : Heap} (t : S.tn it i h) : ∃ o, h.get? it = some o ∧ ∀ v, o.data ≠ .cell v := by
  cases S with
  | l a => obtain ⟨o, e, _, d⟩ := t; exact ⟨o, e, fun v q => by rw [d] at q; cases q⟩
  | t a => obtain ⟨o, e, _, d⟩ := t; exact ⟨o, e, fun v q => by rw [d] at q; cases q⟩
  | s x => obtain ⟨u, o, e, _, d⟩ := t; exact ⟨o, e, fun v q => by rw [d] at q; cases q⟩
theorem Src.keep {S : Src} {it : Addr} {i : Nat} {h h' : Heap} (t : S.tn it i h) (k : ∀ o, h.get? it = some o → h'.get? it = some o) : S.tn it i h' := by
  cases S with
  | l a => obtain ⟨o, e, r⟩ := t; exact ⟨o, k o e, r⟩
  | t a => obtain ⟨o, e, r⟩ := t; exact ⟨o, k o e, r⟩
  | s x => obtain ⟨u, o, e, r⟩ := t; exact ⟨u, o, k o e, r⟩
theorem Src.inj {X : Cx} {pins : List (Addr × Obj)} {σ : L2.St} {H : Hp} {s : Shared} {S : Src} {xs ys : List V} (I : Inv X pins σ H s) (h : S.has X.K H xs) (g : S.has X.K H ys) : xs = ys := by
  cases S with
  | l a => exact I.list_inj h g
  | t a => exact I.tuple_inj h g
  | s x => exact h.trans g.symm
theorem Src.draw {X : Cx} {pins : List (Addr × Obj)} {σ : L2.St} {H : Hp} {s : Shared} {S : Src} {xs : List V} {it n0 : Nat} {i : Nat} {prog : Program} {w : World} {A : Around} (hh : A.handled = none) (I : Inv X pins σ H s) (h : S.has X.K H xs) (st : S.tn it i s.heap) (b : S.below n0) (hn : n0 ≤ it) :
    ∃ (fp : List Nat) (P : Nat → Value → Prop) (St : Nat → Heap → Prop), Draws prog w A it fp xs.length P St ∧ St i s.heap ∧ (∀ k v, P k v → ∃ x, xs[k]? = some x ∧ RelV x v) ∧ (∀ k h, St k h → S.tn it k h) ∧ it ∈ fp ∧ ∀ c : Nat, c ∈ fp → c = it ∨ c < n0 := by
  cases S with
  | l a =>
    obtain ⟨its, rv, p, _⟩ := I.list h
    have hl := rv.length
    have e : its.toArray.size = xs.length := by simp [hl]
    rw [← e]
    have b' : a < n0 := b
    refine ⟨_, _, _, Draws.list hh it a (Nat.ne_of_lt (Nat.lt_of_lt_of_le b' hn)) its.toArray, ⟨st, p.isList⟩, fun k v q => ?_, fun k h q => q.1, by simp, fun c hc => ?_⟩
    · exact vals_back rv (by simpa using q)
    · have : c = it ∨ c = a := by simpa using hc
      exact this.imp id fun z => by rw [z]; exact b'
  | t a =>
    obtain ⟨its, rv, p, _⟩ := I.tuple h
    have hl := rv.length
    have e : its.toArray.size = xs.length := by simp [hl]
    rw [← e]
    have b' : a < n0 := b
    refine ⟨_, _, _, Draws.tuple hh it a (Nat.ne_of_lt (Nat.lt_of_lt_of_le b' hn)) its.toArray, ⟨st, p⟩, fun k v q => ?_, fun k h q => q.1, by simp, fun c hc => ?_⟩
    · exact vals_back rv (by simpa using q)
    · have : c = it ∨ c = a := by simpa using hc
      exact this.imp id fun z => by rw [z]; exact b'
  | s x =>
    obtain ⟨t, st⟩ := st
    have e : x.cps.size = xs.length := by rw [show xs = strVs x from h]; simp [strVs]
    rw [← e]
    refine ⟨_, _, _, Draws.text hh it x t, st, fun k v ⟨c, u, q1, q2⟩ => ⟨.str ⟨#[c]⟩, ?_, ?_⟩, fun k h q => ⟨t, q⟩, by simp, fun c hc => .inl (by simpa using hc)⟩
    · rw [show xs = strVs x from h]
      simp [strVs, q1]
    · rw [q2]
      exact ⟨u, rfl⟩
theorem Src.begins {X : Cx} {pins : List (Addr × Obj)} {σ : L2.St} {H : Hp} {s : Shared} {S : Src} {xs : List V} {u : Value} (I : Inv X pins σ H s) (h : S.has X.K H xs) (r : RelV S.v u) :
    ∃ (o : Obj) (Hh : Heap → Prop), Begins u o Hh ∧ Hh s.heap ∧ (∀ (h' : Heap) it, h'.get? it = some o → S.tn it 0 h') ∧ S.below s.heap.objs.size := by
  cases S with
  | l a =>
    obtain ⟨its, rv, p, _⟩ := I.list h
    obtain rfl : u = Value.ref a := r
    exact ⟨_, _, begins_list a its.toArray, p.isList, fun h' it e => ⟨_, e, rfl, rfl⟩, p.lt⟩
  | t a =>
    obtain ⟨its, rv, p, _⟩ := I.tuple h
    obtain rfl : u = Value.ref a := r
    refine ⟨_, _, begins_tuple a its.toArray, p, fun h' it e => ⟨_, e, rfl, rfl⟩, ?_⟩
    obtain ⟨o, ho, _⟩ := p
    exact Heap.lt_size ho
  | s x =>
    obtain ⟨t, rfl⟩ : ∃ t, u = Value.str x t := r
    exact ⟨_, _, begins_text x t, trivial, fun h' it e => ⟨t, _, e, rfl, rfl⟩, trivial⟩
/-! ### zip of two -/
def ItS (K : PySem.W.Frag) (S1 S2 : Src) : It :=
  ⟨fun i H => ∃ (xs ys : List V) (x y : V), S1.has K H xs ∧ S2.has K H ys ∧ xs[i]? = some x ∧ ys[i]? = some y,
    fun i H v H' => ∃ T x y, v = .ref T ∧ H T = none ∧ H' = upd H T (.tup [x, y]) ∧ (∀ xs, S1.has K H xs → xs[i]? = some x) ∧ ∀ ys, S2.has K H ys → ys[i]? = some y,
    fun i H => ∃ xs ys : List V, S1.has K H xs ∧ S2.has K H ys ∧ i = min xs.length ys.length⟩
theorem ne_ {a b : Nat} (h : ¬ a = b) : (show Addr from a) ≠ (show Addr from b) := h
theorem sep2 {n0 : Nat} {fp1 fp2 : List Nat} (m1 : n0 ∈ fp1) (m2 : n0 + 1 ∈ fp2) (c1 : ∀ c : Nat, c ∈ fp1 → c = n0 ∨ c < n0) (c2 : ∀ c : Nat, c ∈ fp2 → c = n0 + 1 ∨ c < n0) : ZipSep2 (n0 + 4) (n0 + 2) (n0 + 3) n0 (n0 + 1) fp1 fp2 where
  TIz := ne_ (by omega)
  TOz := ne_ (by omega)
  TITO := ne_ (by omega)
  TIi1 := ne_ (by omega)
  mem1 := m1
  zf1 := fun h => by have := c1 _ h; omega
  Tf1 := fun h => by have := c1 _ h; omega
  TIi2 := ne_ (by omega)
  mem2 := m2
  zf2 := fun h => by have := c2 _ h; omega
  Tf2 := fun h => by have := c2 _ h; omega
  sep1_2 := fun h => by have := c2 _ h; omega
  sep2_1 := fun h => by have := c1 _ h; omega
theorem in5 {c z a b d e : Nat} (h : c ∈ [z, a, b, d, e]) : c = z ∨ c = a ∨ c = b ∨ c = d ∨ c = e := by simpa using h
theorem ge5 {c n : Nat} (h : c ∈ [n + 4, n + 2, n + 3, n, n + 1]) : c ≤ n + 4 := by rcases in5 h with q | q | q | q | q <;> omega
def tnS (S1 S2 : Src) (n0 : Nat) (i : Nat) (h : Heap) : Prop := IsZip h (n0 + 4) (n0 + 2) (n0 + 3) .none ∧ IsTupOf2 h (n0 + 2) (.ref n0) (.ref (n0 + 1)) ∧ (∃ x y, IsTupOf2 h (n0 + 3) x y) ∧ S1.tn n0 i h ∧ S2.tn (n0 + 1) i h
theorem tnS.lt {S1 S2 : Src} {n0 i : Nat} {h : Heap} (t : tnS S1 S2 n0 i h) : n0 + 4 < h.objs.size := Heap.lt_size t.1
theorem turnS {P : Program} {w : World} {K : PySem.W.Frag} {elts : List Expr} {kk : Nat} {tpos : Pos} {S1 S2 : Src} {n0 : Nat} (b1 : S1.below n0) (b2 : S2.below n0) :
    Turn P w K (.Tuple elts kk tpos) (ItS K S1 S2) [n0 + 4, n0 + 2, n0 + 3, n0, n0 + 1] (n0 + 4) (tnS S1 S2 n0) where
  mem := by simp
  obj := fun i h st c hc => by
    obtain ⟨hz, hTI, ⟨x, y, hTO⟩, t1, t2⟩ := st
    rcases in5 hc with q | q | q | q | q
    · rw [q]; exact ⟨_, hz, fun v q => nomatch q⟩
    · rw [q]; exact ⟨_, hTI, fun v q => nomatch q⟩
    · rw [q]; exact ⟨_, hTO, fun v q => nomatch q⟩
    · rw [q]; exact Src.obj t1
    · rw [q]; exact Src.obj t2
  keep := fun i h h' st k => by
    obtain ⟨hz, hTI, ⟨x, y, hTO⟩, h1, h2⟩ := st
    exact ⟨k _ (by simp) _ hz, k _ (by simp) _ hTI, ⟨x, y, k _ (by simp) _ hTO⟩, Src.keep h1 fun o q => k _ (by simp) o q, Src.keep h2 fun o q => k _ (by simp) o q⟩
  item := by
    intro X hP hw hK hc i pins s σ H E I hf st hg
    subst hP hw hK
    have hlt := tnS.lt st
    obtain ⟨hz, hTI, ⟨x0, y0, hTO⟩, h1, h2⟩ := st
    obtain ⟨xs, ys, x, y, hqx, hqy, hx, hy⟩ := hg
    have hh : X.A.in1.handled = none := I.ok.hd hc
    obtain ⟨fp1, P1, St1, D1, s1, r1, k1, m1, c1⟩ := Src.draw (prog := X.prog) (w := X.w) (n0 := n0) hh I hqx h1 b1 (Nat.le_refl _)
    obtain ⟨fp2, P2, St2, D2, s2, r2, k2, m2, c2⟩ := Src.draw (prog := X.prog) (w := X.w) (n0 := n0) hh I hqy h2 b2 (Nat.le_succ _)
    have SS := sep2 m1 m2 c1 c2
    refine wpAny_pyNext_zipD2_item SS D1 D2 hz hTI hTO s1 s2 (List.getElem?_eq_some_iff.mp hx).1 (List.getElem?_eq_some_iff.mp hy).1 fun u1 u2 h' tk p1 p2 z' TO' s1' s2' hT hsz hk => ?_
    obtain ⟨x', hx', ru⟩ := r1 _ _ p1
    obtain ⟨y', hy', ru2⟩ := r2 _ _ p2
    rw [hx] at hx'; cases hx'
    rw [hy] at hy'; cases hy'
    refine ⟨_, rfl, wpAny_letOwnedTupleGo_zip (s := { s with heap := h', toks := tk }) z' fun h'' z'' sb => ?_⟩
    have hT2 : h''.get? s.heap.objs.size = some { cls := .type "tuple", data := .seq #[u1, u2] } := (sb.2 _ (ne_ (by omega))).trans hT
    have new : ObjOk X.prog X.w (upd H s.heap.objs.size (.tup [x, y])) h'' s.heap.objs.size (.tup [x, y]) := ⟨by show 2 ≤ sizeLine; decide, [u1, u2], .cons ru (.cons ru2 .nil), ⟨_, hT2, rfl, _, rfl⟩⟩
    have I1 : Inv X pins σ (upd H s.heap.objs.size (.tup [x, y])) { s with heap := h'', toks := tk } :=
      I.turnedNew (t' := tk) (ch := [n0 + 4, n0 + 2, n0 + 3, n0, n0 + 1]) (fun c o hb q => (sb.2 c (fun q' => hb (by simp [q']))).trans (hk c o (fun q' => hb (by simp [q'])) (fun q' => hb (by simp [q'])) (fun q' => hb (by simp [q'])) (fun q' => hb (by simp [q'])) q)) hf (Nat.le_refl _) new
    refine ⟨.ref s.heap.objs.size, _, I1, rfl, ⟨_, x, y, rfl, I.hok.fresh (Nat.le_refl _), rfl, fun l hl => by rw [Src.inj I hl hqx]; exact hx, fun l hl => by rw [Src.inj I hl hqy]; exact hy⟩, ⟨z'', ?_, ⟨u1, u2, ?_⟩, ?_, ?_⟩, fun c hcm => ?_⟩
    · exact (sb.2 _ (ne_ (by omega))).trans (hk _ _ (ne_ (by omega)) (ne_ (by omega)) (ne_ (by omega)) (ne_ (by omega)) hTI)
    · exact (sb.2 _ (ne_ (by omega))).trans TO'
    · exact Src.keep (k1 _ _ s1') fun o q => (sb.2 _ (ne_ (by omega))).trans q
    · exact Src.keep (k2 _ _ s2') fun o q => (sb.2 _ (ne_ (by omega))).trans q
    · have hlt2 : c < s.heap.objs.size := Nat.lt_of_le_of_lt (ge5 hcm) hlt
      rw [upd_ne (Nat.ne_of_lt hlt2)]
      exact (hf c hcm).1
  done := by
    intro X hP hw hK hc i pins s σ H E I hf st hg
    subst hP hw hK
    obtain ⟨hz, hTI, ⟨x0, y0, hTO⟩, h1, h2⟩ := st
    obtain ⟨xs, ys, hqx, hqy, hend⟩ := hg
    have hh : X.A.in1.handled = none := I.ok.hd hc
    obtain ⟨fp1, P1, St1, D1, s1, r1, k1, m1, c1⟩ := Src.draw (prog := X.prog) (w := X.w) (n0 := n0) hh I hqx h1 b1 (Nat.le_refl _)
    obtain ⟨fp2, P2, St2, D2, s2, r2, k2, m2, c2⟩ := Src.draw (prog := X.prog) (w := X.w) (n0 := n0) hh I hqy h2 b2 (Nat.le_succ _)
    exact wpAny_pyNext_zipD2_end (sep2 m1 m2 c1 c2) D1 D2 hz hTI hTO s1 s2 (by omega) (by omega) (by omega) fun h' tk hk => ⟨rfl, I.turnedL (t' := tk) (ch := [n0 + 4, n0 + 2, n0 + 3, n0, n0 + 1]) (fun c o hb q =>
      hk c o (fun q' => hb (by simp [q'])) (fun q' => hb (by simp [q'])) (fun q' => hb (by simp [q'])) (fun q' => hb (by simp [q'])) q) hf⟩
  self := fun A i s Q E st h => wpAny_pyIter_zip st.1 h
theorem le5 {c n : Nat} (h : c ∈ [n + 4, n + 2, n + 3, n, n + 1]) : n ≤ c := by rcases in5 h with q | q | q | q | q <;> omega
theorem far5 {X : Cx} {pins : List (Addr × Obj)} {σ : L2.St} {H : Hp} {s : Shared} (I : Inv X pins σ H s) {n : Nat} (hn : s.heap.objs.size ≤ n) : ∀ c : Nat, n ≤ c → FpOk X pins H c := fun c hc =>
  I.fpOk (Nat.le_trans hn hc) (I.hok.fresh (Nat.le_trans hn hc))
theorem pi_zipS {X : Cx} {e e2 : Expr} {ta : TA} {p pos tpos : Pos} {elts : List Expr} {kk : Nat} (hg : Gl X "zip") (hm : X.mg "zip" = none) (ha : PA X [e, e2] ta)
    (hs : starEach [e, e2] X.env = (false, eval e X.env) :: starEach [e2] X.env := by rfl) (hpl : (backTo pos (starEach [e2] X.env)).any (·.1) = false := by rfl) :
    PI X (.Tuple elts kk tpos) (.Call (.Name "zip" p) [e, e2] [] pos) (fun σ H R => ta σ H fun vs H1 => ∃ S1 S2 xs ys, vs = [Src.v S1, Src.v S2] ∧ S1.has X.K H1 xs ∧ S2.has X.K H1 ys ∧ R (ItS X.K S1 S2) H1) := by
  refine ⟨fun pins s σ H R I h => Call_ (ld_blt I hg hm boot_zip (callWith_type1 (thn (ha.run pos pins s σ H _ I h) fun us s1 ⟨vs, H1, I1, r1, S1, S2, xs, ys, ex, hqx, hqy, q⟩ => ?_) hs hpl))⟩
  subst ex
  cases r1 with
  | cons r rr =>
    cases rr with
    | cons r' rr =>
      cases rr
      obtain ⟨o1, H1', B1, g1, t1, l1⟩ := Src.begins I1 hqx r
      obtain ⟨o2, H2', B2, g2, t2, l2⟩ := Src.begins I1 hqy r'
      refine zip_begins2 B1 B2 g1 g2 fun h' hz hTI hTO e1 e2 hsz hk => wpAny_pyIter_zip hz ?_
      exact ⟨s1.heap.objs.size + 4, [s1.heap.objs.size + 4, s1.heap.objs.size + 2, s1.heap.objs.size + 3, s1.heap.objs.size, s1.heap.objs.size + 1], _, _, H1, rfl, I1.kept (t' := s1.toks) hk, turnS l1 l2, ⟨hz, hTI, ⟨_, _, hTO⟩, t1 _ _ e1, t2 _ _ e2⟩, fun c hc => far5 (n := s1.heap.objs.size) I1 (Nat.le_refl _) c (le5 hc), q⟩
end PLz
namespace PL
open PySem PySem.Spec L2
def itemsD : D → Option (List D)
  | .list ds => some ds
  | .tuple ds => some ds
  | .str z => some (signsD z)
  | _ => none
theorem src_of {K : PySem.W.Frag} {F H : Hp} {v : V} {d : D} {ds : List D} (s : Same F H) (r : Rp K F v d) (e : itemsD d = some ds) : ∃ (S : PLz.Src) (xs : List V), S.v = v ∧ (∀ H', Same F H' → S.has K H' xs) ∧ RpAll K F xs ds := by
  cases r with
  | non => cases e
  | bl b => cases e
  | int i => cases e
  | dic h r => cases e
  | str x =>
    cases e
    refine ⟨.s x, PLz.strVs x, rfl, fun H' _ => rfl, ?_⟩
    unfold PLz.strVs signsD
    generalize x.cps.toList = l
    induction l with
    | nil => exact .nil
    | cons c l ih => exact .cons (.str _) ih
  | lst h r => cases e; exact ⟨.l _, _, rfl, fun H' s' => .inl (.inl (s' _ _ h)), r⟩
  | tup h r => cases e; exact ⟨.t _, _, rfl, fun H' s' => same_t s' h, r⟩
section
variable {X : Cx} {B : Box} {e e2 : Expr} {ta : QA} {p pos tpos : Pos} {elts : List Expr} {kk : Nat}
def iZS (ta : QA) (ρ : Env) (Q : List PyData → Env → Prop) : Prop := ta ρ fun ws ρ' => match wsD ws with
  | some [a, b] => match itemsD a, itemsD b with
    | some as, some bs => Q (zipD as bs) ρ'
    | _, _ => False
  | _ => False
theorem i_zipS (hg : Gl X "zip") (hm : X.mg "zip" = none) (ha : PA X [e, e2] (liftA X.K B ta)) (hs : starEach [e, e2] X.env = (false, eval e X.env) :: starEach [e2] X.env := by rfl) (hpl : (backTo pos (starEach [e2] X.env)).any (·.1) = false := by rfl) :
    PI X (.Tuple elts kk tpos) (.Call (.Name "zip" p) [e, e2] [] pos) (liftI X.K B (iZS ta)) :=
  weakI (PLz.pi_zipS hg hm ha hs hpl) fun σ H R ⟨G, F, ρ, P, k, h, q⟩ => liftA_use k h fun ws ρ' vs H' F' p k' w e => by
    split at p
    · rename_i a b g
      split at p
      · rename_i as bs ga gb
        obtain ⟨x, y, rfl, r1, r2⟩ := (wsD_ok w g).two
        obtain ⟨S1, xs, rfl, h1, r1⟩ := src_of k'.2.f r1 ga
        obtain ⟨S2, ys, rfl, h2, r2⟩ := src_of k'.2.f r2 gb
        have l1 := r1.length
        have l2 := r2.length
        refine ⟨S1, S2, xs, ys, rfl, h1 _ k'.2.f, h2 _ k'.2.f, q _ _ _ _ _ p k' e ⟨fun i H hi s => ?_, fun H s => ⟨xs, ys, h1 H s, h2 H s, by rw [zipD_len, l1, l2]⟩, fun i H v H' hi s ⟨T, x, y, e1, e2, e3, e4, e5⟩ => ?_⟩⟩
        · rw [zipD_len] at hi
          exact ⟨xs, ys, xs[i]'(by omega), ys[i]'(by omega), h1 H s, h2 H s, List.getElem?_eq_getElem _, List.getElem?_eq_getElem _⟩
        · obtain ⟨d, hd, rd⟩ := r1.getV (e4 xs (h1 H s))
          obtain ⟨d', hd', rd'⟩ := r2.getV (e5 ys (h2 H s))
          exact ⟨_, zipD_get hd hd', .inr (.inl ⟨T, _, [d, d'], e2, e1, rfl, e3, .cons rd (.one rd')⟩)⟩
      · exact p.elim
    · exact p.elim
end
end PL

set_option Elab.async false
set_option linter.all false
set_option maxRecDepth 100000
/-! PX, part 7: for s, p in zip(S, zip(t, u)), t and u tuples. -/
namespace PLz
open PySem PySem.Spec L2
open PyProof.Rows
section
variable {prog : Program} {w : World} {A : Around} {E : Value → Shared → Prop} {s : Shared} {z TI TO i1 i2 a b : Addr} {k : Nat} {xs ys : Array Value} {x y : Value}
theorem nextOfN {Q : Value → Shared → Prop} (D : ZipApart z TI TO i1 i2 a b) (t : AtN s.heap z TI TO i1 i2 a b k) (p1 : s.heap.IsTuple a xs) (p2 : s.heap.IsTuple b ys) (hx : xs[k]? = some x) (hy : ys[k]? = some y)
    (fin : ∀ h', AtN h' z TI TO i1 i2 a b (k + 1) → IsPair h' s.heap.objs.size x y → (∀ c o, c ∉ [z, TI, TO, i1, i2] → s.heap.get? c = some o → h'.get? c = some o) → Q (.ref s.heap.objs.size) { s with heap := h' }) : wpAny (model prog w) A (Builtin.SmallTypes.nextOf (.ref z)) Q E s := by
  have hT := t.ty
  obtain ⟨out, ti, ⟨c1, c2, to⟩, t1, t2⟩ := t
  have nm : ∀ {c : Addr}, c ∉ [z, TI, TO, i1, i2] → c ≠ z ∧ c ≠ TI ∧ c ≠ TO ∧ c ≠ i1 ∧ c ≠ i2 := fun h => by simpa using h
  unfold Builtin.SmallTypes.nextOf
  refine wpAny_bind (wpAny_callSpecial?_slot (name := Str.ofString "__next__") hT F.slot_zip_next (wpAny_call_entry F.slot_zip_next hT F.entry_zip_next ?_ (F.args_zip_next_1 _)))
  rcases out with out | ⟨W, fl, out⟩
  · refine RZ.zipT_next_item D out ti to t1 t2 p1 p2 hx hy fun h' a1 a2 a3 a4 a5 a6 a7 => wpAny_pure (fin h' ⟨.inr ⟨_, false, a1⟩, a7 _ _ D.TIz D.TITO D.TIi1 D.TIi2 ti, ⟨_, _, a2⟩, a3, a4⟩ a5 fun c o hc e => ?_)
    obtain ⟨q1, _, q2, q3, q4⟩ := nm hc
    exact a7 c o q1 q2 q3 q4 e
  · cases hW : s.heap.get? W with
    | some oW =>
      refine nextHeld D out hW ti t1 t2 p1 p2 hx hy fun h' a1 a2 a3 a4 a5 => wpAny_pure (fin h' ⟨.inr ⟨W, true, a1⟩, a5 _ _ D.TIz D.TIi1 D.TIi2 ti, ⟨_, _, a5 _ _ D.TOz D.TOi1 D.TOi2 to⟩, a2, a3⟩ a4 fun c o hc e => ?_)
      obtain ⟨q1, _, q2, q3, q4⟩ := nm hc
      exact a5 c o q1 q3 q4 e
    | none =>
      refine nextDead D out hW ti to t1 t2 p1 p2 hx hy fun h' a1 a2 a3 a4 a5 a7 => wpAny_pure (fin h' ⟨.inr ⟨_, false, a1⟩, a7 _ _ D.TIz D.TITO D.TIi1 D.TIi2 ti, ⟨_, _, a2⟩, a3, a4⟩ a5 fun c o hc e => ?_)
      obtain ⟨q1, _, q2, q3, q4⟩ := nm hc
      exact a7 c o q1 q2 q3 q4 e
theorem endOfN {Q : Value → Shared → Prop} (hh : A.handled = none) (D : ZipApart z TI TO i1 i2 a b) (t : AtN s.heap z TI TO i1 i2 a b k) (p1 : s.heap.IsTuple a xs) (p2 : s.heap.IsTuple b ys) (hend : xs[k]? = none ∨ ys[k]? = none)
    (fin : ∀ h' e, (∀ c o, c ∉ [z, TI, TO, i1, i2] → s.heap.get? c = some o → h'.get? c = some o) → (∃ o, h'.get? e = some o ∧ o.cls = .type "StopIteration") → E (.ref e) { s with heap := h' }) : wpAny (model prog w) A (Builtin.SmallTypes.nextOf (.ref z)) Q E s := by
  have hT := t.ty
  obtain ⟨out, ti, ⟨c1, c2, to⟩, t1, t2⟩ := t
  have nm : ∀ {c : Addr}, c ∉ [z, TI, TO, i1, i2] → c ≠ z ∧ c ≠ TI ∧ c ≠ TO ∧ c ≠ i1 ∧ c ≠ i2 := fun h => by simpa using h
  unfold Builtin.SmallTypes.nextOf
  refine wpAny_bind (wpAny_callSpecial?_slot (name := Str.ofString "__next__") hT F.slot_zip_next (wpAny_call_entry F.slot_zip_next hT F.entry_zip_next ?_ (F.args_zip_next_1 _)))
  have go : ∀ (h' : Heap) (e : Addr), (∀ c o, c ≠ z → c ≠ TO → c ≠ i1 → c ≠ i2 → s.heap.get? c = some o → h'.get? c = some o) → (∃ o, h'.get? e = some o ∧ o.cls = .type "StopIteration") → E (.ref e) { s with heap := h' } := fun h' e kp he =>
    fin h' e (fun c o hc q => by
      obtain ⟨q1, _, q2, q3, q4⟩ := nm hc
      exact kp c o q1 q2 q3 q4 q) he
  rcases out with out | ⟨W, fl, out⟩
  · exact RZ.zipT_next_end hh D out ti to t1 t2 p1 p2 hend fun h' e kp he => go h' e kp he
  · cases hW : s.heap.get? W with
    | some oW => exact endHeld hh D out hW ti t1 t2 p1 p2 hend fun h' e kp he => go h' e (fun c o n1 n2 n3 n4 q => kp c o n1 n3 n4 q) he
    | none => exact endDead hh D out hW ti to t1 t2 p1 p2 hend fun h' e kp he => go h' e kp he
end
abbrev inn (n0 : Nat) : List Nat := [n0 + 4, n0 + 2, n0 + 3, n0, n0 + 1]
abbrev outs (n0 : Nat) : List Nat := [n0 + 8, n0 + 6, n0 + 7, n0 + 5, n0 + 4, n0 + 2, n0 + 3, n0, n0 + 1]
theorem in9 {c n : Nat} (h : c ∈ outs n) : n ≤ c ∧ c ≤ n + 8 := by
  have : c = n + 8 ∨ c = n + 6 ∨ c = n + 7 ∨ c = n + 5 ∨ c = n + 4 ∨ c = n + 2 ∨ c = n + 3 ∨ c = n ∨ c = n + 1 := by simpa [outs] using h
  omega
theorem notin5 {c n : Nat} (h : c < n ∨ n + 5 ≤ c) : c ∉ inn n := fun z => by
  have h1 := le5 z
  have h2 := ge5 z
  omega
theorem notout {c n : Nat} (h : c ∉ outs n) : c ≠ n + 8 ∧ c ≠ n + 6 ∧ c ≠ n + 7 ∧ c ≠ n + 5 ∧ c ∉ inn n := by
  simp only [outs, List.mem_cons, List.not_mem_nil, or_false, not_or] at h
  obtain ⟨h1, h2, h3, h4, h5⟩ := h
  exact ⟨h1, h2, h3, h4, by simpa [inn] using h5⟩
abbrev AtI (h : Heap) (n0 a b k : Nat) : Prop := AtN h (n0 + 4) (n0 + 2) (n0 + 3) n0 (n0 + 1) a b k
theorem AtI.over {h h' : Heap} {n0 a b k x : Nat} (t : AtI h n0 a b k) (hs : Heap.SameBut x h h') (hx : n0 + 5 ≤ x) : AtI h' n0 a b k := AtN.keep t fun c hc o e => hs.extBut c o (fun q => by
  have := ge5 hc
  rw [q] at this
  omega) e
theorem tup_over {h h' : Heap} {a x : Nat} {xs : Array Value} (p : h.IsTuple a xs) (hs : Heap.SameBut x h h') (hx : a ≠ x) : h'.IsTuple a xs := p.extBut hs.extBut hx
section
variable {prog : Program} {w : World} {A : Around} {E : Value → Shared → Prop} {s : Shared} {n0 a b n1 i : Nat} {fp1 : List Nat} {P1 : Nat → Value → Prop} {St1 : Nat → Heap → Prop} {ys zs : Array Value} {y z c1 c2 : Value}
theorem nextSS {Q : Value → Shared → Prop} (D1 : Draws prog w A (n0 + 5) fp1 n1 P1 St1) (k1 : ∀ c : Nat, c ∈ fp1 → c = n0 + 5 ∨ c < n0) (m1 : n0 + 5 ∈ fp1) (ha : a < n0) (hb : b < n0)
    (hz : IsZip s.heap (n0 + 8) (n0 + 6) (n0 + 7) .none) (hTI : IsTupOf2 s.heap (n0 + 6) (.ref (n0 + 5)) (.ref (n0 + 4))) (hTO : IsTupOf2 s.heap (n0 + 7) c1 c2) (st1 : St1 i s.heap) (hlt1 : i < n1) (t : AtI s.heap n0 a b i) (p1 : s.heap.IsTuple a ys) (p2 : s.heap.IsTuple b zs) (hy : ys[i]? = some y) (hz2 : zs[i]? = some z)
    (hQ : ∀ x g h' tk, P1 i x → (∀ c o, c ∉ outs n0 → s.heap.get? c = some o → g.get? c = some o) → IsPair g s.heap.objs.size y z → IsZip h' (n0 + 8) (n0 + 6) (n0 + 7) (rawInt g.objs.size) → (∃ c1 c2, IsTupOf2 h' (n0 + 7) c1 c2) → St1 (i + 1) h' → AtI h' n0 a b (i + 1) →
      (∀ c o, c ∉ outs n0 → g.get? c = some o → h'.get? c = some o) → IsTupOf2 h' (n0 + 6) (.ref (n0 + 5)) (.ref (n0 + 4)) → IsTupOf2 h' g.objs.size x (.ref s.heap.objs.size) → Q (.ref g.objs.size) { s with heap := h', toks := tk }) :
    wpAny (model prog w) A (Builtin.«zip.__next__» ⟨[.ref (n0 + 8)], []⟩) (fun fin s' => ∃ v, fin = .done (.ret v) ∧ Q v s') E s := by
  obtain ⟨hp, g, d, tk0, os⟩ := s
  have zlt : n0 + 8 < hp.objs.size := Heap.lt_size hz
  have no1 : ∀ x : Nat, n0 + 6 ≤ x → x ∉ fp1 := fun x hx q => by have := k1 x q; omega
  show wpAny _ _ (field (.ref (n0 + 8)) 2 >>= _) _ _ _
  refine wpAny_bind (wpAny_field hz rfl (x := .bool false) rfl ?_)
  show wpAny _ _ (field (.ref (n0 + 8)) 3 >>= _) _ _ _
  refine wpAny_bind (wpAny_field hz rfl (x := .ref (n0 + 6)) rfl ?_)
  refine wpAny_bind (wpAny_seqItems hTI rfl ?_)
  show wpAny _ _ (Builtin.SmallTypes.ownedTupleIsFree (.ref (n0 + 8)) >>= _) _ _ _
  refine wpAny_bind ?_
  unfold Builtin.SmallTypes.ownedTupleIsFree
  refine wpAny_bind (wpAny_field hz rfl (x := .none) rfl (wpAny_pure ?_))
  simp only [if_true]
  refine wpAny_bind (wpAny_rule ?_)
  refine wpAny_bind (wpAny_field hz rfl (x := .ref (n0 + 7)) rfl ?_)
  refine wpAny_bind (wpAny_setField_rec hz (by simp) fun g0 hz0 hs0 => ?_)
  replace hz0 : IsZip g0 (n0 + 8) (n0 + 6) (n0 + 7) .ellipsis := hz0
  replace hs0 : Heap.SameBut (n0 + 8) hp g0 := hs0
  refine wpAny_bind ?_
  simp only [List.zipIdx_cons, List.zipIdx_nil, List.forIn_cons, List.forIn_nil]
  refine wpAny_bind (wpAny_bind (wpAny_onRaise ?_))
  show wpAny _ _ (Builtin.SmallTypes.nextOf (.ref (n0 + 5)) >>= _) _ _ ⟨g0, g, d, tk0, os⟩
  refine wpAny_bind (D1.item i _ _ _ hlt1 (D1.over st1 hs0 (no1 _ (by omega))) fun x1 q1 tk1 hx1 sn1 hp1 => wpAny_pure ?_)
  replace hp1 : Heap.SameBut (n0 + 5) g0 q1 := hp1
  have hU1 : IsTupOf2 q1 (n0 + 7) c1 c2 := hp1.extBut _ _ (ne_ (by omega)) (hs0.extBut _ _ (ne_ (by omega)) hTO)
  refine wpAny_bind (wpAny_seqItems (s := ⟨q1, g, d, tk1, os⟩) hU1 rfl ?_)
  refine wpAny_bind (updateSeq_IsTupOf2 (s := ⟨q1, g, d, tk1, os⟩) hU1 fun g1 hT1 hs1 => ?_)
  replace hT1 : IsTupOf2 g1 (n0 + 7) x1 c2 := hT1
  replace hs1 : Heap.SameBut (n0 + 7) q1 g1 := hs1
  refine wpAny_bind (wpAny_letGo (wpAny_pure ?_))
  refine wpAny_bind (wpAny_bind (wpAny_onRaise ?_))
  show wpAny _ _ (Builtin.SmallTypes.nextOf (.ref (n0 + 4)) >>= _) _ _ ⟨g1, g, d, tk1, os⟩
  have t1 : AtI g1 n0 a b i := ((AtI.over t hs0 (by omega)).over hp1 (by omega)).over hs1 (by omega)
  have pa : g1.IsTuple a ys := tup_over (tup_over (tup_over p1 hs0 (ne_ (by omega))) hp1 (ne_ (by omega))) hs1 (ne_ (by omega))
  have pb : g1.IsTuple b zs := tup_over (tup_over (tup_over p2 hs0 (ne_ (by omega))) hp1 (ne_ (by omega))) hs1 (ne_ (by omega))
  have sz1 : g1.objs.size = hp.objs.size := by rw [hs1.1, hp1.1, hs0.1]
  refine wpAny_bind (nextOfN (s := ⟨g1, g, d, tk1, os⟩) (PySem.W.ktu_apart n0 a b ha hb) t1 pa pb hy hz2 fun q2 t2 hP hk2 => wpAny_pure ?_)
  replace hP : IsPair q2 g1.objs.size y z := hP
  replace hk2 : ∀ (c : Nat) o, c ∉ inn n0 → g1.get? c = some o → q2.get? c = some o := hk2
  have lt2 : g1.objs.size < q2.objs.size := Heap.lt_size hP
  have hU2 : IsTupOf2 q2 (n0 + 7) x1 c2 := hk2 _ _ (notin5 (by omega)) hT1
  show wpAny _ _ (seqItems? (.ref (n0 + 7)) >>= _) _ _ ⟨q2, g, d, tk1, os⟩
  refine wpAny_bind (wpAny_seqItems (s := ⟨q2, g, d, tk1, os⟩) hU2 rfl ?_)
  refine wpAny_bind (updateSeq_IsTupOf2 (s := ⟨q2, g, d, tk1, os⟩) hU2 fun g2 hT2 hs2 => ?_)
  replace hT2 : IsTupOf2 g2 (n0 + 7) x1 (.ref g1.objs.size) := hT2
  replace hs2 : Heap.SameBut (n0 + 7) q2 g2 := hs2
  refine wpAny_bind (wpAny_letGo (wpAny_pure (wpAny_pure ?_)))
  refine wpAny_bind (wpAny_seqItems (s := ⟨g2, g, d, tk1, os⟩) hT2 rfl ?_)
  refine wpAny_bind (wpAny_newTuple ?_)
  have hsz : g2.objs.size = q2.objs.size := hs2.1
  have up1 : ∀ (c : Nat) o, c ≠ n0 + 8 → c ≠ n0 + 7 → c ≠ n0 + 5 → c ∉ inn n0 → hp.get? c = some o → q2.get? c = some o := fun c o h1 h2 h3 h4 e => hk2 c o h4 (hs1.extBut _ _ h2 (hp1.extBut _ _ h3 (hs0.extBut _ _ h1 e)))
  have hzz : IsZip g2 (n0 + 8) (n0 + 6) (n0 + 7) .ellipsis := hs2.extBut _ _ (ne_ (by omega)) (hk2 _ _ (notin5 (by omega)) (hs1.extBut _ _ (ne_ (by omega)) (hp1.extBut _ _ (ne_ (by omega)) hz0)))
  have hj1 : St1 (i + 1) g2 := D1.over (D1.frame _ _ _ (D1.over sn1 hs1 (no1 _ (by omega))) fun c hc o e => hk2 c o (notin5 (by have := k1 c hc; omega)) e) hs2 (no1 _ (by omega))
  have hzlt : n0 + 8 < g2.objs.size := Heap.lt_size hzz
  show wpAny _ _ (Builtin.SmallTypes.ownedTupleHandOut (.ref (n0 + 8)) (.ref g2.objs.size) >>= _) _ _ ⟨g2.push { cls := .type "tuple", data := .seq #[x1, .ref g1.objs.size] }, g, d, tk1, os⟩
  refine wpAny_bind ?_
  unfold Builtin.SmallTypes.ownedTupleHandOut
  have hz6 : IsZip (g2.push { cls := .type "tuple", data := .seq #[x1, .ref g1.objs.size] }) (n0 + 8) (n0 + 6) (n0 + 7) .ellipsis := Heap.get?_push_of_some _ hzz
  refine wpAny_bind (wpAny_setField_rec hz6 (by simp) fun h7 hz7 hs7 => ?_)
  replace hz7 : IsZip h7 (n0 + 8) (n0 + 6) (n0 + 7) (rawInt g2.objs.size) := hz7
  refine wpAny_setField_rec hz7 (by simp) fun h8 hz8 hs8 => ?_
  replace hz8 : IsZip h8 (n0 + 8) (n0 + 6) (n0 + 7) (rawInt g2.objs.size) := hz8
  replace hs7 : Heap.SameBut (n0 + 8) (g2.push { cls := .type "tuple", data := .seq #[x1, .ref g1.objs.size] }) h7 := hs7
  replace hs8 : Heap.SameBut (n0 + 8) h7 h8 := hs8
  have up : ∀ (c : Nat) o, c ≠ n0 + 8 → g2.get? c = some o → h8.get? c = some o := fun c o e1 e => hs8.extBut _ _ e1 (hs7.extBut _ _ e1 (Heap.get?_push_of_some _ e))
  have hT8 : IsTupOf2 h8 g2.objs.size x1 (.ref g1.objs.size) := hs8.extBut _ _ (Nat.ne_of_gt hzlt) (hs7.extBut _ _ (Nat.ne_of_gt hzlt) (Heap.get?_push_size _ rfl))
  have up2 : ∀ (c : Nat) o, c ≠ n0 + 8 → c ≠ n0 + 7 → q2.get? c = some o → h8.get? c = some o := fun c o h1 h2 e => up c o h1 (hs2.extBut _ _ h2 e)
  rw [hsz] at hz8 hT8
  rw [sz1] at hT8 hP
  refine wpAny_pure ⟨_, rfl, ?_⟩
  show Q (.ref g2.objs.size) ⟨h8, g, d, tk1, os⟩
  rw [hsz]
  refine hQ x1 q2 h8 tk1 hx1 (fun c o hc e => ?_) hP hz8 ⟨_, _, up _ _ (by omega) hT2⟩ (D1.frame _ _ _ hj1 fun c hc o e => up c o (fun q => no1 _ (by omega) (q ▸ hc)) e) (AtN.keep t2 fun c hc o e => up2 c o (by have := ge5 hc; omega) (by have := ge5 hc; omega) e) (fun c o hc e => ?_) (up2 _ _ (by omega) (by omega) (up1 _ _ (by omega) (by omega) (by omega) (notin5 (by omega)) hTI)) hT8
  · obtain ⟨h1, h2, h3, h4, h5⟩ := notout hc
    exact up1 c o h1 h3 h4 h5 e
  · obtain ⟨h1, h2, h3, h4, h5⟩ := notout hc
    exact up2 c o h1 h3 e
theorem endSS {Q : Fin → Shared → Prop} (hh : A.handled = none) (D1 : Draws prog w A (n0 + 5) fp1 n1 P1 St1) (k1 : ∀ c : Nat, c ∈ fp1 → c = n0 + 5 ∨ c < n0) (ha : a < n0) (hb : b < n0)
    (hz : IsZip s.heap (n0 + 8) (n0 + 6) (n0 + 7) .none) (hTI : IsTupOf2 s.heap (n0 + 6) (.ref (n0 + 5)) (.ref (n0 + 4))) (hTO : IsTupOf2 s.heap (n0 + 7) c1 c2) (st1 : St1 i s.heap) (hle : i ≤ n1) (t : AtI s.heap n0 a b i) (p1 : s.heap.IsTuple a ys) (p2 : s.heap.IsTuple b zs) (hend : i = n1 ∨ ys[i]? = none ∨ zs[i]? = none)
    (hE : ∀ h' tk e, (∀ c o, c ∉ outs n0 → s.heap.get? c = some o → h'.get? c = some o) → (∃ o, h'.get? e = some o ∧ o.cls = .type "StopIteration") → E (.ref e) { s with heap := h', toks := tk }) :
    wpAny (model prog w) A (Builtin.«zip.__next__» ⟨[.ref (n0 + 8)], []⟩) Q E s := by
  obtain ⟨hp, g, d, tk0, os⟩ := s
  have no1 : ∀ x : Nat, n0 + 6 ≤ x → x ∉ fp1 := fun x hx q => by have := k1 x q; omega
  show wpAny _ _ (field (.ref (n0 + 8)) 2 >>= _) _ _ _
  refine wpAny_bind (wpAny_field hz rfl (x := .bool false) rfl ?_)
  show wpAny _ _ (field (.ref (n0 + 8)) 3 >>= _) _ _ _
  refine wpAny_bind (wpAny_field hz rfl (x := .ref (n0 + 6)) rfl ?_)
  refine wpAny_bind (wpAny_seqItems hTI rfl ?_)
  show wpAny _ _ (Builtin.SmallTypes.ownedTupleIsFree (.ref (n0 + 8)) >>= _) _ _ _
  refine wpAny_bind ?_
  unfold Builtin.SmallTypes.ownedTupleIsFree
  refine wpAny_bind (wpAny_field hz rfl (x := .none) rfl (wpAny_pure ?_))
  simp only [if_true]
  refine wpAny_bind (wpAny_rule ?_)
  refine wpAny_bind (wpAny_field hz rfl (x := .ref (n0 + 7)) rfl ?_)
  refine wpAny_bind (wpAny_setField_rec hz (by simp) fun g0 hz0 hs0 => ?_)
  replace hz0 : IsZip g0 (n0 + 8) (n0 + 6) (n0 + 7) .ellipsis := hz0
  replace hs0 : Heap.SameBut (n0 + 8) hp g0 := hs0
  refine wpAny_bind ?_
  simp only [List.zipIdx_cons, List.zipIdx_nil, List.forIn_cons, List.forIn_nil]
  refine wpAny_bind (wpAny_bind (wpAny_onRaise ?_))
  show wpAny _ _ (Builtin.SmallTypes.nextOf (.ref (n0 + 5)) >>= _) _ _ ⟨g0, g, d, tk0, os⟩
  have last : ∀ (q : Heap) (e tk : Nat), IsZip q (n0 + 8) (n0 + 6) (n0 + 7) .ellipsis → (∃ o, q.get? e = some o ∧ o.cls = .type "StopIteration") → (∀ c o, c ∉ outs n0 → hp.get? c = some o → q.get? c = some o) →
      wpAny (model prog w) A (setField (.ref (n0 + 8)) 0 .none) (fun _ s' => E (.ref e) s') E ⟨q, g, d, tk, os⟩ := fun q e tk hzq ⟨oe, hoe, hce⟩ kp => by
    have hez : e ≠ n0 + 8 := fun x => by subst x; rw [hzq] at hoe; cases hoe; simp at hce
    refine wpAny_setField_rec (s := ⟨q, g, d, tk, os⟩) hzq (by simp) fun q' _ hq' => ?_
    replace hq' : Heap.SameBut (n0 + 8) q q' := hq'
    exact hE q' tk e (fun c o hc x => hq'.extBut _ _ (notout hc).1 (kp c o hc x)) ⟨oe, hq'.extBut _ _ hez hoe, hce⟩
  by_cases hlt1 : i < n1
  · refine wpAny_bind (D1.item i _ _ _ hlt1 (D1.over st1 hs0 (no1 _ (by omega))) fun x1 q1 tk1 hx1 sn1 hp1 => wpAny_pure ?_)
    replace hp1 : Heap.SameBut (n0 + 5) g0 q1 := hp1
    have hU1 : IsTupOf2 q1 (n0 + 7) c1 c2 := hp1.extBut _ _ (ne_ (by omega)) (hs0.extBut _ _ (ne_ (by omega)) hTO)
    refine wpAny_bind (wpAny_seqItems (s := ⟨q1, g, d, tk1, os⟩) hU1 rfl ?_)
    refine wpAny_bind (updateSeq_IsTupOf2 (s := ⟨q1, g, d, tk1, os⟩) hU1 fun g1 hT1 hs1 => ?_)
    replace hT1 : IsTupOf2 g1 (n0 + 7) x1 c2 := hT1
    replace hs1 : Heap.SameBut (n0 + 7) q1 g1 := hs1
    refine wpAny_bind (wpAny_letGo (wpAny_pure ?_))
    refine wpAny_bind (wpAny_bind (wpAny_onRaise ?_))
    show wpAny _ _ (Builtin.SmallTypes.nextOf (.ref (n0 + 4)) >>= _) _ _ ⟨g1, g, d, tk1, os⟩
    have t1 : AtI g1 n0 a b i := ((AtI.over t hs0 (by omega)).over hp1 (by omega)).over hs1 (by omega)
    have pa : g1.IsTuple a ys := tup_over (tup_over (tup_over p1 hs0 (ne_ (by omega))) hp1 (ne_ (by omega))) hs1 (ne_ (by omega))
    have pb : g1.IsTuple b zs := tup_over (tup_over (tup_over p2 hs0 (ne_ (by omega))) hp1 (ne_ (by omega))) hs1 (ne_ (by omega))
    refine wpAny_bind (endOfN (s := ⟨g1, g, d, tk1, os⟩) hh (PySem.W.ktu_apart n0 a b ha hb) t1 pa pb (hend.resolve_left (by omega)) fun q2 e hk2 he => ?_)
    replace hk2 : ∀ (c : Nat) o, c ∉ inn n0 → g1.get? c = some o → q2.get? c = some o := hk2
    refine last q2 e tk1 (hk2 _ _ (notin5 (by omega)) (hs1.extBut _ _ (ne_ (by omega)) (hp1.extBut _ _ (ne_ (by omega)) hz0))) he fun c o hc x => ?_
    obtain ⟨h1, h2, h3, h4, h5⟩ := notout hc
    exact hk2 c o h5 (hs1.extBut _ _ h3 (hp1.extBut _ _ h4 (hs0.extBut _ _ h1 x)))
  · have hi1 : i = n1 := by omega
    refine wpAny_bind (D1.done ⟨g0, g, d, tk0, os⟩ _ _ (by rw [← hi1]; exact (D1.over st1 hs0 (no1 _ (by omega)))) fun q e hq he => ?_)
    replace hq : Heap.ExtBut (n0 + 5) g0 q := hq
    refine last q e tk0 (hq _ _ (ne_ (by omega)) hz0) he fun c o hc x => ?_
    obtain ⟨h1, h2, h3, h4, h5⟩ := notout hc
    exact hq _ _ h4 (hs0.extBut _ _ h1 x)
end
/-! ### as a walk -/
def ItSS (K : PySem.W.Frag) (S1 : Src) (a b : Addr) : It :=
  ⟨fun i H => ∃ (xs ys zs : List V) (x y z : V), S1.has K H xs ∧ SqT K H a ys ∧ SqT K H b zs ∧ xs[i]? = some x ∧ ys[i]? = some y ∧ zs[i]? = some z,
    fun i H v H' => ∃ p q x y z, H p = none ∧ H q = none ∧ p ≠ q ∧ v = .ref q ∧ H' = upd (upd H p (.tup [y, z])) q (.tup [x, .ref p]) ∧ (∀ xs, S1.has K H xs → xs[i]? = some x) ∧ (∀ ys, SqT K H a ys → ys[i]? = some y) ∧ ∀ zs, SqT K H b zs → zs[i]? = some z,
    fun i H => ∃ xs ys zs : List V, S1.has K H xs ∧ SqT K H a ys ∧ SqT K H b zs ∧ i = min xs.length (min ys.length zs.length)⟩
def tnSS (S1 : Src) (a b n0 : Nat) (i : Nat) (h : Heap) : Prop := IsZip h (n0 + 8) (n0 + 6) (n0 + 7) .none ∧ IsTupOf2 h (n0 + 6) (.ref (n0 + 5)) (.ref (n0 + 4)) ∧ (∃ x y, IsTupOf2 h (n0 + 7) x y) ∧ S1.tn (n0 + 5) i h ∧ AtI h n0 a b i
theorem outs_cases {c n : Nat} (h : c ∈ outs n) : c = n + 8 ∨ c = n + 6 ∨ c = n + 7 ∨ c = n + 5 ∨ c ∈ inn n := by
  simp only [outs, List.mem_cons, List.not_mem_nil, or_false] at h
  simp only [inn, List.mem_cons, List.not_mem_nil, or_false]
  exact h
theorem mem8 {n : Nat} : n + 8 ∈ outs n ∧ n + 6 ∈ outs n ∧ n + 7 ∈ outs n ∧ n + 5 ∈ outs n ∧ ∀ c ∈ inn n, c ∈ outs n := by
  refine ⟨by simp [outs], by simp [outs], by simp [outs], by simp [outs], fun c hc => ?_⟩
  simp only [inn, List.mem_cons, List.not_mem_nil, or_false] at hc
  simp only [outs, List.mem_cons, List.not_mem_nil, or_false]
  exact .inr (.inr (.inr (.inr hc)))
theorem turnSS {P : Program} {w : World} {K : PySem.W.Frag} {elts : List Expr} {kk : Nat} {tpos : Pos} {S1 : Src} {n0 a b : Nat} (b1 : S1.below n0) (ha : a < n0) (hb : b < n0) :
    Turn P w K (.Tuple elts kk tpos) (ItSS K S1 a b) (outs n0) (n0 + 8) (tnSS S1 a b n0) where
  mem := mem8.1
  obj := fun i h st c hc => by
    obtain ⟨hz, hTI, ⟨x, y, hTO⟩, t1, out, ti, ⟨x2, y2, to⟩, ⟨o1, e1, _, d1⟩, ⟨o2, e2, _, d2⟩⟩ := st
    rcases outs_cases hc with q | q | q | q | q
    · rw [q]; exact ⟨_, hz, fun v q => nomatch q⟩
    · rw [q]; exact ⟨_, hTI, fun v q => nomatch q⟩
    · rw [q]; exact ⟨_, hTO, fun v q => nomatch q⟩
    · rw [q]; exact Src.obj t1
    · rcases in5 q with q | q | q | q | q
      · rw [q]
        rcases out with out | ⟨W, fl, out⟩
        · exact ⟨_, out, fun v q => nomatch q⟩
        · exact ⟨_, out, fun v q => nomatch q⟩
      · rw [q]; exact ⟨_, ti, fun v q => nomatch q⟩
      · rw [q]; exact ⟨_, to, fun v q => nomatch q⟩
      · rw [q]; exact ⟨o1, e1, fun v q => by rw [d1] at q; cases q⟩
      · rw [q]; exact ⟨o2, e2, fun v q => by rw [d2] at q; cases q⟩
  keep := fun i h h' st k => by
    obtain ⟨hz, hTI, ⟨x, y, hTO⟩, h1, h2⟩ := st
    exact ⟨k _ mem8.1 _ hz, k _ mem8.2.1 _ hTI, ⟨x, y, k _ mem8.2.2.1 _ hTO⟩, Src.keep h1 fun o q => k _ mem8.2.2.2.1 o q, AtN.keep h2 fun c hc o q => k c (mem8.2.2.2.2 c hc) o q⟩
  item := by
    intro X hP hw hK hc i pins s σ H E I hf st hg
    subst hP hw hK
    obtain ⟨hz, hTI, ⟨x0, y0, hTO⟩, h1, h2⟩ := st
    have hlt : n0 + 8 < s.heap.objs.size := Heap.lt_size hz
    obtain ⟨xs, ys, zs, x, y, z, hqx, hqy, hqz, hx, hy, hz2⟩ := hg
    have hh : X.A.in1.handled = none := I.ok.hd hc
    obtain ⟨fp1, P1, St1, D1, s1, r1, k1, m1, c1⟩ := Src.draw (prog := X.prog) (w := X.w) (n0 := n0) hh I hqx h1 b1 (by omega)
    obtain ⟨its, rv, p, _⟩ := I.tuple hqy
    obtain ⟨its2, rv2, p2, _⟩ := I.tuple hqz
    obtain ⟨u, hu, ru⟩ := rv.get hy
    obtain ⟨u2, hu2, ru2⟩ := rv2.get hz2
    have hT : s.TypeIs (.ref (n0 + 8)) "zip" := ⟨_, hz, rfl⟩
    unfold pyNext
    refine wpAny_bind (wpAny_attempt (wpAny_callSpecial?_slot (name := Str.ofString "__next__") hT F.slot_zip_next (wpAny_call_entry F.slot_zip_next hT F.entry_zip_next ?_ (F.args_zip_next_1 _))))
    refine nextSS (y := u) (z := u2) D1 c1 m1 ha hb hz hTI hTO s1 (List.getElem?_eq_some_iff.mp hx).1 h2 p p2 (by simpa using hu) (by simpa using hu2) fun u1 g h' tk q1 kk1 hP z' TO' s1' t' kk2 TI' hT' => wpAny_pure ?_
    obtain ⟨x', hx', ru0⟩ := r1 _ _ q1
    rw [hx] at hx'; cases hx'
    have lt1 : s.heap.objs.size < g.objs.size := Heap.lt_size hP
    refine ⟨_, rfl, wpAny_letOwnedTupleGo_zip (s := { s with heap := h', toks := tk }) z' fun h'' z'' sb => ?_⟩
    have new1 : ObjOk X.prog X.w (upd H s.heap.objs.size (.tup [y, z])) g s.heap.objs.size (.tup [y, z]) := ⟨by show 2 ≤ sizeLine; decide, [u, u2], .cons ru (.cons ru2 .nil), ⟨_, hP, rfl, _, rfl⟩⟩
    have I1 : Inv X pins σ (upd H s.heap.objs.size (.tup [y, z])) { s with heap := g, toks := tk } := I.turnedNew (t' := tk) (ch := outs n0) (fun c o hb q => kk1 c o hb q) hf (Nat.le_refl _) new1
    have hf1 : ∀ c ∈ outs n0, FpOk X pins (upd H s.heap.objs.size (.tup [y, z])) c := fun c hcm => by
      have h9 := in9 hcm
      refine ⟨?_, (hf c hcm).2⟩
      rw [upd_ne (ne_ (by omega))]
      exact (hf c hcm).1
    have hT2 : h''.get? g.objs.size = some { cls := .type "tuple", data := .seq #[u1, .ref s.heap.objs.size] } := (sb.2 _ (ne_ (by omega))).trans hT'
    have new2 : ObjOk X.prog X.w (upd (upd H s.heap.objs.size (.tup [y, z])) g.objs.size (.tup [x, .ref s.heap.objs.size])) h'' g.objs.size (.tup [x, .ref s.heap.objs.size]) :=
      ⟨by show 2 ≤ sizeLine; decide, [u1, .ref s.heap.objs.size], .cons ru0 (.cons rfl .nil), ⟨_, hT2, rfl, _, rfl⟩⟩
    have I2 : Inv X pins σ (upd (upd H s.heap.objs.size (.tup [y, z])) g.objs.size (.tup [x, .ref s.heap.objs.size])) { s with heap := h'', toks := tk } :=
      I1.turnedNew (t' := tk) (ch := outs n0) (fun c o hb q => (sb.2 c (notout hb).1).trans (kk2 c o hb q)) hf1 (Nat.le_refl _) new2
    refine ⟨.ref g.objs.size, _, I2, rfl, ⟨s.heap.objs.size, g.objs.size, x, y, z, I.hok.fresh (Nat.le_refl _), I.hok.fresh (Nat.le_of_lt lt1), Nat.ne_of_lt lt1, rfl, rfl, fun l hl => by rw [Src.inj I hl hqx]; exact hx, fun l hl => by rw [I.tuple_inj hl hqy]; exact hy, fun l hl => by rw [I.tuple_inj hl hqz]; exact hz2⟩, ⟨z'', ?_, ?_, ?_, ?_⟩, fun c hcm => ?_⟩
    · exact (sb.2 _ (ne_ (by omega))).trans TI'
    · obtain ⟨d1, d2, q⟩ := TO'
      exact ⟨d1, d2, (sb.2 _ (ne_ (by omega))).trans q⟩
    · exact Src.keep (k1 _ _ s1') fun o q => (sb.2 _ (ne_ (by omega))).trans q
    · refine AtN.keep t' fun c hcc o q => (sb.2 c fun e => ?_).trans q
      have h5 := ge5 hcc
      rw [e] at h5
      omega
    · have h9 := in9 hcm
      rw [upd_ne (ne_ (by omega)), upd_ne (ne_ (by omega))]
      exact (hf c hcm).1
  done := by
    intro X hP hw hK hc i pins s σ H E I hf st hg
    subst hP hw hK
    obtain ⟨hz, hTI, ⟨x0, y0, hTO⟩, h1, h2⟩ := st
    obtain ⟨xs, ys, zs, hqx, hqy, hqz, hend⟩ := hg
    have hh : X.A.in1.handled = none := I.ok.hd hc
    obtain ⟨fp1, P1, St1, D1, s1, r1, k1, m1, c1⟩ := Src.draw (prog := X.prog) (w := X.w) (n0 := n0) hh I hqx h1 b1 (by omega)
    obtain ⟨its, rv, p, _⟩ := I.tuple hqy
    obtain ⟨its2, rv2, p2, _⟩ := I.tuple hqz
    have l1 := rv.length
    have l2 := rv2.length
    have hT : s.TypeIs (.ref (n0 + 8)) "zip" := ⟨_, hz, rfl⟩
    unfold pyNext
    refine wpAny_bind (wpAny_attempt (wpAny_callSpecial?_slot (name := Str.ofString "__next__") hT F.slot_zip_next (wpAny_call_entry F.slot_zip_next hT F.entry_zip_next ?_ (F.args_zip_next_1 _))))
    refine endSS hh D1 c1 ha hb hz hTI hTO s1 (by omega) h2 p p2 ?_ fun h' tk e hk he => ?_
    · have : i = xs.length ∨ ys.length ≤ i ∨ zs.length ≤ i := by omega
      rcases this with q | q | q
      · exact .inl q
      · exact .inr (.inl (by simp; omega))
      · exact .inr (.inr (by simp; omega))
    · obtain ⟨o, ho, hcl⟩ := he
      refine wpAny_bind (wpAny_isInstance (T := "StopIteration") (b := true) ⟨o, ho, hcl⟩ isSubtype_stop ?_)
      exact wpAny_pure ⟨rfl, I.turnedL (t' := tk) (ch := outs n0) (fun c o hb q => hk c o hb q) hf⟩
  self := fun A i s Q E st h => wpAny_pyIter_zip st.1 h
end PLz

set_option Elab.async false
set_option linter.all false
set_option maxRecDepth 100000
/-! PX, part 8: the same, made and walked. -/
namespace PLz
open PySem PySem.Spec L2
open PyProof.Rows
open AutoSeq1 (wpAny_loadPart')
abbrev bzT (h : Heap) (o1 : Obj) (z : Addr) : Heap := (h.push o1).push { cls := .type "tuple", data := .seq #[.ref h.objs.size, .ref z] }
abbrev bzO (h : Heap) (o1 : Obj) (z : Addr) : Heap := (bzT h o1 z).push { cls := .type "tuple", data := .seq #[.none, .none] }
abbrev bzZ (h : Heap) (o1 : Obj) (z : Addr) : Heap := (bzO h o1 z).push { cls := .type "zip", data := .fields #[.none, .bool false, .bool false, .ref (h.push o1).objs.size, .ref (bzT h o1 z).objs.size] }
theorem meets_zip_newBZ {v1 : Value} {o1 : Obj} {H1 : Heap → Prop} {z TI TO : Addr} (B1 : Begins v1 o1 H1) :
    Meets (Builtin.«zip.__new__» ⟨[.type "zip", v1, .ref z], []⟩) (fun _ R s => (H1 s.heap ∧ IsZip s.heap z TI TO .none) ∧
      R (.ok (.ret (.ref (bzO s.heap o1 z).objs.size))) { s with heap := bzZ s.heap o1 z }) :=
  .of_wp fun prog w A R s h => by
    obtain ⟨hp, g, d, tk, os⟩ := s; obtain ⟨⟨h1, h2⟩, h⟩ := h
    have hsub := sub_zip
    have q1 : ∀ {A' : Around} {E : Value → Shared → Prop} {Q : Value → Shared → Prop}, Q (.ref hp.objs.size) ⟨(hp.push o1), g, d, tk, os⟩ → wpAny (model prog w) A' (pyIter v1) Q E ⟨hp, g, d, tk, os⟩ :=
      fun q => B1.iter prog w _ _ ⟨hp, g, d, tk, os⟩ _ (B1.keeps _ _ h1 fun b o' e => e) q
    have q2 : ∀ {A' : Around} {E : Value → Shared → Prop} {Q : Value → Shared → Prop}, Q (.ref z) ⟨(hp.push o1), g, d, tk, os⟩ → wpAny (model prog w) A' (pyIter (.ref z)) Q E ⟨(hp.push o1), g, d, tk, os⟩ :=
      fun q => wpAny_pyIter_zip (s := ⟨(hp.push o1), g, d, tk, os⟩) (Heap.get?_push_of_some _ h2) q
    wp_walk using q1, q2
    exact ⟨_, rfl, h⟩
section
variable {prog : Program} {w : World} {A : Around} {E : Value → Shared → Prop} {s : Shared}
theorem zip_beginsZ {v1 : Value} {o1 : Obj} {H1 : Heap → Prop} {z TI TO n : Nat} {Q : Value → Shared → Prop} (B1 : Begins v1 o1 H1) (h1 : H1 s.heap) (h2 : IsZip s.heap z TI TO .none) (hn : s.heap.objs.size = n)
    (h : ∀ h', IsZip h' (n + 3) (n + 1) (n + 2) .none → IsTupOf2 h' (n + 1) (.ref n) (.ref z) → IsTupOf2 h' (n + 2) .none .none → h'.get? n = some o1 → (∀ c o, s.heap.get? c = some o → h'.get? c = some o) → Q (.ref (n + 3)) { s with heap := h' }) :
    wpAny (model prog w) A (call (.type "zip") [v1, .ref z]) Q E s := by
  refine callType_new F.called_zip (by decide) (F.typeCall_zip_2 _ _) (F.newCall_zip_2 _ _) (fun obj => F.args_object_init_3 obj _ _) F.entry_zip_new
    (meets_zip_newBZ B1) ⟨⟨h1, h2⟩, ?_⟩
  have z1 : (s.heap.push o1).objs.size = n + 1 := by rw [Heap.size_push, hn]
  have zT : (bzT s.heap o1 z).objs.size = n + 2 := by rw [Heap.size_push, z1]
  have zO : (bzO s.heap o1 z).objs.size = n + 3 := by rw [Heap.size_push, zT]
  have gZ : (bzZ s.heap o1 z).get? (bzO s.heap o1 z).objs.size = some { cls := .type "zip", data := .fields #[.none, .bool false, .bool false, .ref (s.heap.push o1).objs.size, .ref (bzT s.heap o1 z).objs.size] } := Heap.get?_push_size _ rfl
  have gO : (bzZ s.heap o1 z).get? (bzT s.heap o1 z).objs.size = some { cls := .type "tuple", data := .seq #[.none, .none] } := Heap.get?_push_of_some _ (Heap.get?_push_size _ rfl)
  have gT : (bzZ s.heap o1 z).get? (s.heap.push o1).objs.size = some { cls := .type "tuple", data := .seq #[.ref s.heap.objs.size, .ref z] } := Heap.get?_push_of_some _ (Heap.get?_push_of_some _ (Heap.get?_push_size _ rfl))
  have g1 : (bzZ s.heap o1 z).get? s.heap.objs.size = some o1 := Heap.get?_push_of_some _ (Heap.get?_push_of_some _ (Heap.get?_push_of_some _ (Heap.get?_push_size _ B1.free)))
  rw [zO, zT, z1] at gZ
  rw [zT] at gO
  rw [z1, hn] at gT
  rw [hn] at g1
  show _ ∧ _
  rw [zO]
  exact ⟨⟨_, gZ, rfl⟩, h _ gZ gT gO g1 fun c o e => Heap.get?_push_of_some _ (Heap.get?_push_of_some _ (Heap.get?_push_of_some _ (Heap.get?_push_of_some _ e)))⟩
end
theorem pi_zipSS {X : Cx} {e e2 e3 : Expr} {te : TE} {ta : TA} {p p2 pos pos2 tpos : Pos} {elts : List Expr} {kk : Nat} (hg : Gl X "zip") (hm : X.mg "zip" = none) (he : PE X e te) (ha : PA X [e2, e3] ta)
    (hs : starEach [e2, e3] X.env = (false, eval e2 X.env) :: starEach [e3] X.env := by rfl) (hpl : (backTo pos2 (starEach [e3] X.env)).any (·.1) = false := by rfl)
    (hs1 : starEach [e, .Call (.Name "zip" p2) [e2, e3] [] pos2] X.env = (false, eval e X.env) :: starEach [.Call (.Name "zip" p2) [e2, e3] [] pos2] X.env := by rfl)
    (hs2 : starEach [.Call (.Name "zip" p2) [e2, e3] [] pos2] X.env = (false, eval (.Call (.Name "zip" p2) [e2, e3] [] pos2) X.env) :: starEach [] X.env := by rfl) (hpl1 : (backTo pos (starEach [.Call (.Name "zip" p2) [e2, e3] [] pos2] X.env)).any (·.1) = false := by rfl) :
    PI X (.Tuple elts kk tpos) (.Call (.Name "zip" p) [e, .Call (.Name "zip" p2) [e2, e3] [] pos2] [] pos)
      (fun σ H R => te σ H fun x H0 => ta σ H0 fun vs H1 => ∃ S1 a b xs ys zs, x = Src.v S1 ∧ vs = [.ref a, .ref b] ∧ S1.has X.K H1 xs ∧ SqT X.K H1 a ys ∧ SqT X.K H1 b zs ∧ R (ItSS X.K S1 a b) H1) := by
  refine ⟨fun pins s σ H R I h => Call_ (ld_blt I hg hm boot_zip (callWith_type1 ?_ hs1 hpl1))⟩
  rw [hs1, hs2]
  refine Calls.spliced_cons (thn (he.run pins s σ H _ I h) fun u0 s0 ⟨x, H0, I0, r0, q0⟩ => ?_)
  refine Calls.spliced_cons (Call_ (ld_blt I0 hg hm boot_zip (callWith_type1 (thn (ha.run pos2 pins s0 σ H0 _ I0 q0) fun us s1 ⟨vs, H1, I1, r1, S1, a, b, xs, ys, zs, ex, ev, hqx, hqy, hqz, q⟩ => ?_) hs hpl)))
  subst ex ev
  cases r1 with
  | cons r rr =>
    cases rr with
    | cons r' rr =>
      cases rr
      cases r
      cases r'
      obtain ⟨its, rv, p1, _⟩ := I1.tuple hqy
      obtain ⟨its2, rv2, p2, _⟩ := I1.tuple hqz
      obtain ⟨oa, hoa, _⟩ := id p1
      obtain ⟨ob, hob, _⟩ := id p2
      have la := Heap.lt_size hoa
      have lb := Heap.lt_size hob
      refine RZ.call_zipT (show s1.heap.IsTuple a its.toArray from p1) (show s1.heap.IsTuple b its2.toArray from p2) fun h' hz hTI hTO h1 h2 hsz hk => Calls.spliced_nil ?_
      have I2 : Inv X pins σ H1 { s1 with heap := h' } := I1.kept (t' := s1.toks) hk
      obtain ⟨o1, H1', B1, g1, t1, _⟩ := Src.begins I2 hqx r0
      have l1 : S1.below s1.heap.objs.size := by
        obtain ⟨_, _, _, _, _, l⟩ := Src.begins (S := S1) (u := u0) I1 hqx r0
        exact l
      refine zip_beginsZ (s := { s1 with heap := h' }) B1 g1 hz hsz fun h2' hz2 hTI2 hTO2 e1 hk2 => wpAny_pyIter_zip hz2 ?_
      refine ⟨s1.heap.objs.size + 8, outs s1.heap.objs.size, _, _, H1, rfl, I2.kept (t' := s1.toks) hk2, turnSS l1 la lb, ⟨hz2, hTI2, ⟨_, _, hTO2⟩, t1 _ _ e1, ⟨.inl (hk2 _ _ hz), hk2 _ _ hTI, ⟨_, _, hk2 _ _ hTO⟩, h1.at fun o e => hk2 _ o e, h2.at fun o e => hk2 _ o e⟩⟩, fun c hc => far5 (n := s1.heap.objs.size) I1 (Nat.le_refl _) c (in9 hc).1, q⟩
end PLz
namespace PL
open PySem PySem.Spec L2
section
variable {X : Cx} {B : Box} {e e2 e3 : Expr} {te : QE} {ta : QA} {p p2 pos pos2 tpos : Pos} {elts : List Expr} {kk : Nat}
def zip3D (as bs cs : List D) : List D := zipD as (zipD bs cs)
def iZSS (te : QE) (ta : QA) (ρ : Env) (Q : List PyData → Env → Prop) : Prop := te ρ fun r ρ1 => match r with
  | .d a => ta ρ1 fun ws ρ' => match wsD ws, itemsD a with
    | some [.tuple bs, .tuple cs], some as => Q (zipD as (zipD bs cs)) ρ'
    | _, _ => False
  | _ => False
theorem i_zipSS (hg : Gl X "zip") (hm : X.mg "zip" = none) (he : PE X e (lift X.K B te)) (ha : PA X [e2, e3] (liftA X.K B ta))
    (hs : starEach [e2, e3] X.env = (false, eval e2 X.env) :: starEach [e3] X.env := by rfl) (hpl : (backTo pos2 (starEach [e3] X.env)).any (·.1) = false := by rfl)
    (hs1 : starEach [e, .Call (.Name "zip" p2) [e2, e3] [] pos2] X.env = (false, eval e X.env) :: starEach [.Call (.Name "zip" p2) [e2, e3] [] pos2] X.env := by rfl)
    (hs2 : starEach [.Call (.Name "zip" p2) [e2, e3] [] pos2] X.env = (false, eval (.Call (.Name "zip" p2) [e2, e3] [] pos2) X.env) :: starEach [] X.env := by rfl) (hpl1 : (backTo pos (starEach [.Call (.Name "zip" p2) [e2, e3] [] pos2] X.env)).any (·.1) = false := by rfl) :
    PI X (.Tuple elts kk tpos) (.Call (.Name "zip" p) [e, .Call (.Name "zip" p2) [e2, e3] [] pos2] [] pos) (liftI X.K B (iZSS te ta)) :=
  weakI (PLz.pi_zipSS hg hm he ha hs hpl hs1 hs2 hpl1) fun σ H R ⟨G, F, ρ, P, k, h, q⟩ => lift_use k h fun r ρ1 v H1 F1 h1 k1 w1 e1 => by
    split at h1
    · rename_i a
      refine liftA_use k1 h1 fun ws ρ' vs H' F' p k' w e => ?_
      split at p
      · rename_i bs cs as g ga
        obtain ⟨x, y, rfl, r1, r2⟩ := (wsD_ok w g).two
        obtain ⟨S1, xs, rfl, hx, rx⟩ := src_of k'.2.f (Rp.mono e w1) ga
        cases r1 with
        | tup ha r1 =>
          cases r2 with
          | tup hb r2 =>
            have l0 := rx.length
            have l1 := r1.length
            have l2 := r2.length
            refine ⟨S1, _, _, xs, _, _, rfl, rfl, hx _ k'.2.f, same_t k'.2.f ha, same_t k'.2.f hb, q _ _ _ _ _ p k' (e1.trans e) ⟨fun i H hi s => ?_, fun H s => ⟨xs, _, _, hx H s, same_t s ha, same_t s hb, by rw [zipD_len, zipD_len, l0, l1, l2]⟩, fun i H v H' hi s ⟨p, q, x, y, z, e1, e2, e3, e4, e5, e6, e7, e8⟩ => ?_⟩⟩
            · rw [zipD_len, zipD_len] at hi
              exact ⟨xs, _, _, _, _, _, hx H s, same_t s ha, same_t s hb, List.getElem?_eq_getElem (by omega), List.getElem?_eq_getElem (by omega), List.getElem?_eq_getElem (by omega)⟩
            · obtain ⟨d, hd, rd⟩ := rx.getV (e6 xs (hx H s))
              obtain ⟨d1, hd1, rd1⟩ := r1.getV (e7 _ (same_t s ha))
              obtain ⟨d2, hd2, rd2⟩ := r2.getV (e8 _ (same_t s hb))
              exact ⟨_, zipD_get hd (zipD_get hd1 hd2), .inr (.inr ⟨p, q, x, d, _, [d1, d2], e1, e2, e3, e4, rfl, e5, .cons rd1 (.one rd2), rd⟩)⟩
      · exact p.elim
    · exact h1.elim
end
end PL

local macro_rules | `(tactic| simp? only [$ls,*]) => `(tactic| simp only [$ls,*, PL.T.arg, PL.T.dat, PL.T.still, PL.T.stored, PL.T.w, PL.W.dat, PL.W.t, PL.atD, PL.atI_0, PL.atI_1, PL.atI_2, PL.atI_3, PL.atI_cast, PL.bCons, PL.bNil, PL.bi, PL.endsP, PL.endsUn, PL.gConsP, PL.gN, PL.gNilP, PL.gT, PL.goesTo, PL.iEL, PL.iET, PL.iL, PL.iR1, PL.iR2, PL.iR3, PL.iS, PL.iT, PL.iZ, PL.iZN, PL.iZS, PL.iZSS, PL.isDct, PL.isL, PL.itemsD, PL.keeps_bx, PL.keeps_d, PL.keeps_nil, PL.keeps_raw, PL.keyOf, PL.keysP, PL.outX, PL.pAbs, PL.pAdd, PL.pEq, PL.pEqR, PL.pFdiv, PL.pGe, PL.pGt, PL.pI, PL.pI0, PL.pInt, PL.pIx, PL.pLe, PL.pLen, PL.pLstOf, PL.pLt, PL.pMax2, PL.pMin2, PL.pMod, PL.pMul, PL.pNe, PL.pNeR, PL.pOrd, PL.pPow, PL.pSIndex, PL.pSl, PL.pStarts, PL.pSub, PL.pTupOf, PL.pickL, PL.qAl, PL.qAnd, PL.qAndV, PL.qApp, PL.qBM, PL.qC, PL.qCall, PL.qCallB, PL.qCallF, PL.qCallX, PL.qCons, PL.qDisp, PL.qDisp1T, PL.qExt, PL.qFld, PL.qFn, PL.qGet2D, PL.qGetD, PL.qIf, PL.qInD, PL.qIsE, PL.qKw, PL.qLenD, PL.qLst, PL.qLstRg1, PL.qM1, PL.qNeg, PL.qNewK, PL.qNewKt, PL.qNil, PL.qNoPart, PL.qNot, PL.qNotV, PL.qOp, PL.qOr, PL.qOrV, PL.qPairs, PL.qPart, PL.qPop, PL.qPopAt, PL.qSl, PL.qStar, PL.qTst, PL.qTup, PL.qVar, PL.qYes, PL.qZipL, PL.sAsg, PL.sDrop, PL.sFrz, PL.sIf, PL.sNext, PL.sPar, PL.sPutD, PL.sPutL, PL.sRaise, PL.sRaiseF, PL.sRet, PL.sRetN, PL.sSeq, PL.sTry, PL.setAll, PL.setD, PL.startP, PL.wsD, PL.wsD_map, PL.wsR, PL.wsT, PL.z1, PL.z10, PL.z11, PL.z12, PL.z13, PL.z14, PL.z15, PL.z16, PL.z17, PL.z18, PL.z19, PL.z2, PL.z20, PL.z21, PL.z22, PL.z23, PL.z24, PL.z25, PL.z26, PL.z27, PL.z28, PL.z29, PL.z3, PL.z30, PL.z4, PL.z5, PL.z6, PL.z7, PL.z8, PL.z9, Nat.reduceSub, Nat.reduceAdd, Nat.reduceLeDiff, Nat.reduceLT, reduceCtorEq, List.reduceReplicate])

set_option Elab.async false
set_option linter.all false
set_option maxRecDepth 100000
/-! PR, part 1: tables of figures, read back from what repr writes of them. -/
namespace PL
open PySem PySem.Spec L2
def tl (d : D) : List Nat := d.shown.cps.toList
def jl : List (List Nat) → List Nat
  | [] => []
  | [x] => x
  | x :: y :: r => x ++ ([44, 32] ++ jl (y :: r))
theorem join_jl : ∀ ts : List Str, (Str.join ", " ts).cps.toList = jl (ts.map fun t => t.cps.toList)
  | [] => rfl
  | [x] => rfl
  | x :: y :: r => by
    have ih := join_jl (y :: r)
    show (x ++ ", " ++ Str.join ", " (y :: r)).cps.toList = _
    rw [PyProof.Rows.cps_toList_append, PyProof.Rows.cps_toList_append, ih, List.append_assoc]
    rfl
def tupL (ts : List (List Nat)) : List Nat := 40 :: (jl ts ++ if ts.length = 1 then [44, 41] else [41])
theorem shownAll_map : ∀ ds : List D, (PyData.shownAll ds).map (fun t => t.cps.toList) = ds.map tl
  | [] => rfl
  | d :: ds => by
    show _ :: _ = _ :: _
    rw [shownAll_map ds]
    rfl
theorem shownAll_len : ∀ ds : List D, (PyData.shownAll ds).length = ds.length
  | [] => rfl
  | d :: ds => congrArg (· + 1) (shownAll_len ds)
theorem tl_tup (ds : List D) : tl (.tuple ds) = tupL (ds.map tl) := by
  show (PySem.tupleText (PyData.shownAll ds)).cps.toList = _
  unfold PySem.tupleText tupL
  rw [PyProof.Rows.cps_toList_append, PyProof.Rows.cps_toList_append, join_jl, shownAll_map, shownAll_len, List.length_map]
  by_cases h : ds.length = 1
  · simp only [h, beq_self_eq_true, if_true]
    rfl
  · have : (ds.length == 1) = false := by simpa using h
    simp only [this, h, Bool.false_eq_true, if_false]
    rfl
theorem tl_fig : ∀ {n : Nat}, n < 10 → tl (.int ((n : Nat) : Int)) = [48 + n]
  | 0, _ => by decide +kernel
  | 1, _ => by decide +kernel
  | 2, _ => by decide +kernel
  | 3, _ => by decide +kernel
  | 4, _ => by decide +kernel
  | 5, _ => by decide +kernel
  | 6, _ => by decide +kernel
  | 7, _ => by decide +kernel
  | 8, _ => by decide +kernel
  | 9, _ => by decide +kernel
  | n + 10, h => by omega
/-! reading back: the figures between closing signs -/
def dec : List Nat → List Nat → List (List Nat)
  | acc, [] => [acc]
  | acc, c :: t => if c = 41 then acc :: dec [] t else if 48 ≤ c ∧ c < 58 then dec (acc ++ [c - 48]) t else dec acc t
theorem dec_41 (acc t : List Nat) : dec acc (41 :: t) = acc :: dec [] t := rfl
theorem dec_dig (acc t : List Nat) {n : Nat} (h : n < 10) : dec acc ((48 + n) :: t) = dec (acc ++ [n]) t := by
  show (if 48 + n = 41 then _ else _) = _
  rw [if_neg (by omega), if_pos ⟨by omega, by omega⟩, show 48 + n - 48 = n by omega]
theorem dec_jl : ∀ (r acc t : List Nat), (∀ n ∈ r, n < 10) → dec acc (jl (r.map fun n => [48 + n]) ++ t) = dec (acc ++ r) t
  | [], acc, t, _ => by simp [jl]
  | [n], acc, t, h => by
    show dec acc ((48 + n) :: t) = _
    rw [dec_dig acc t (h n (by simp))]
  | n :: m :: r, acc, t, h => by
    have ih := dec_jl (m :: r) (acc ++ [n]) t fun x hx => h x (List.mem_cons_of_mem _ hx)
    show dec acc ((48 + n) :: 44 :: 32 :: (jl ((m :: r).map fun n => [48 + n]) ++ t)) = _
    rw [dec_dig acc _ (h n (by simp))]
    show dec (acc ++ [n]) (jl ((m :: r).map fun n => [48 + n]) ++ t) = _
    rw [ih]
    simp
def rowT (r : List Nat) : List Nat := tupL (r.map fun n => [48 + n])
theorem dec_row (r acc t : List Nat) (h : ∀ n ∈ r, n < 10) : dec acc (rowT r ++ t) = (acc ++ r) :: dec [] t := by
  unfold rowT tupL
  show dec acc ((jl (r.map fun n => [48 + n]) ++ _) ++ t) = _
  rw [List.append_assoc, dec_jl r acc _ h]
  split <;> rfl
theorem dec_rows : ∀ (st : List (List Nat)) (t : List Nat), (∀ r ∈ st, ∀ n ∈ r, n < 10) → dec [] (jl (st.map rowT) ++ t) = st ++ dec [] t
  | [], t, _ => rfl
  | [r], t, h => by
    show dec [] (rowT r ++ t) = _
    rw [dec_row r [] t (h r (by simp))]
    rfl
  | r :: q :: st, t, h => by
    have ih := dec_rows (q :: st) t fun x hx => h x (List.mem_cons_of_mem _ hx)
    show dec [] ((rowT r ++ (44 :: 32 :: jl ((q :: st).map rowT))) ++ t) = _
    rw [List.append_assoc, dec_row r [] _ (h r (by simp))]
    show r :: dec [] (jl ((q :: st).map rowT) ++ t) = _
    rw [ih]
    rfl
theorem table_back {s1 s2 : List (List Nat)} {e1 e2 : List Nat} (h1 : ∀ r ∈ s1, ∀ n ∈ r, n < 10) (h2 : ∀ r ∈ s2, ∀ n ∈ r, n < 10) (g1 : ∀ n ∈ e1, n < 10) (g2 : ∀ n ∈ e2, n < 10)
    (e : tupL (s1.map rowT) ++ ([44, 32] ++ (rowT e1 ++ [41])) = tupL (s2.map rowT) ++ ([44, 32] ++ (rowT e2 ++ [41]))) : s1 = s2 ∧ e1 = e2 := by
  have key : ∀ (s : List (List Nat)) (en : List Nat), (∀ r ∈ s, ∀ n ∈ r, n < 10) → (∀ n ∈ en, n < 10) → dec [] (tupL (s.map rowT) ++ ([44, 32] ++ (rowT en ++ [41]))) = s ++ [[], en, [], []] := fun s en hs hen => by
    unfold tupL
    show dec [] ((jl (s.map rowT) ++ _) ++ _) = _
    rw [List.append_assoc, dec_rows s _ hs]
    have : dec [] (44 :: 32 :: (rowT en ++ [41])) = [en, [], []] := by
      show dec [] (rowT en ++ [41]) = _
      rw [dec_row en [] [41] hen]
      rfl
    split
    · show s ++ ([] :: dec [] (44 :: 32 :: (rowT en ++ [41]))) = _
      rw [this]
    · show s ++ ([] :: dec [] (44 :: 32 :: (rowT en ++ [41]))) = _
      rw [this]
  have := congrArg (dec []) e
  rw [key s1 e1 h1 g1, key s2 e2 h2 g2] at this
  obtain ⟨a, b⟩ := List.append_inj' this rfl
  injection b with _ b
  injection b with b _
  exact ⟨a, b⟩
theorem tl_nats {r : List Nat} (h : ∀ n ∈ r, n < 10) : tl (.tuple (nats r)) = rowT r := by
  rw [tl_tup]
  unfold rowT nats
  rw [List.map_map]
  congr 1
  exact List.map_congr_left fun n hn => tl_fig (h n hn)
theorem shown_tl {a b : D} (h : a.shown = b.shown) : tl a = tl b := by unfold tl; rw [h]
end PL

set_option Elab.async false
set_option linter.all false
set_option maxRecDepth 100000
namespace C60
open PySem L2 PL
def top (i : Nat) : Stmt := PySem.Challenge.pw_veiledchains_k60_whole_machines_that_tak.main.body.getD i (.Pass ⟨0, 0, 0, 0⟩)
abbrev sUrn : Stmt := top 11
abbrev sTake : Stmt := top 12
/-- the urn: a dict, its list of great cells behind it -/
def urnK (g : Addr) (z t : Int) : List (Key × V) := [(.inr "great", .ref g), (.inr "stir", .int z), (.inr "turn", .int t)]
theorem urn_g (g : Addr) (z t : Int) : valV (urnK g z t) (.inr "great") = some (.ref g) := rfl
theorem urn_s (g : Addr) (z t : Int) : valV (urnK g z t) (.inr "stir") = some (.int z) := by rfl
theorem urn_t (g : Addr) (z t : Int) : valV (urnK g z t) (.inr "turn") = some (.int t) := by rfl
theorem urn_put (g : Addr) (z t t' : Int) : putK (urnK g z t) (.inr "turn") (.int t') = urnK g z t' := by rfl
structure UrnAt (H : Hp) (u g : Addr) (xs : List Int) (z t : Int) : Prop where
  ne : g ≠ u
  ud : H u = some (.dK (urnK g z t))
  gl : H g = some (.lst (xs.map V.int))
  few : xs.length ≤ 63
def urnBox : Box where
  at_ := fun H u fp => ∃ g xs z t, UrnAt H u g xs z t ∧ ∀ a, fp a ↔ a = u ∨ a = g
  frame := fun {H H' u fp} ⟨g, xs, z, t, h, e⟩ k => ⟨g, xs, z, t, ⟨h.ne, (k u ((e u).mpr (.inl rfl))).trans h.ud, (k g ((e g).mpr (.inr rfl))).trans h.gl, h.few⟩, e⟩
  live := fun {H u fp} ⟨g, xs, z, t, h, e⟩ a ha => by
    rcases (e a).mp ha with rfl | rfl
    · rw [h.ud]; exact fun z => nomatch z
    · rw [h.gl]; exact fun z => nomatch z
/-- the urn's def: told as the hand layer tells -/
def spUrn (K : PySem.W.Frag) : Sp := fun vs H Q _ => ∃ (a : Addr) (ns : List Int), vs = [.ref a] ∧ SqL K H a (ns.map V.int) ∧ ns.length ≤ 63 ∧ ∀ u H' fp, urnBox.at_ H' u fp → (∀ b, fp b → H b = none) → Same H H' → Q (.ref u) H'
structure Tx (mg : Str → Option Value) : Prop where
  len : mg "len" = none
  int : mg "int" = none
  abs : mg "abs" = none
section
variable {P : Program} {w : World} {K : PySem.W.Frag} {mg : Str → Option Value} {base : Heap}
theorem cut63 {xs : List V} (h : xs.length ≤ 63) : cutV xs none (some 63) = xs := by
  have h1 : HT.sIx xs.length 0 none = 0 := rfl
  have h2 : HT.sIx xs.length xs.length (some 63) = xs.length := by
    show HT.sIx _ _ _ = _
    simp [HT.sIx]
    omega
  unfold cutV
  rw [h1, h2]
  simp
theorem scUrn : FnScope ["script", "great", "stir", "cell"] ["script"] (defScope sUrn) := ⟨rfl, rfl, rfl, by decide +kernel, rfl, by decide +kernel, by decide +kernel⟩
theorem ok_urn {f : Addr} {fd : FuncData} (F : Fun K "_law_urn" "_law_urn" sUrn f fd) (T : Tx mg) : FnOk P w K mg base CX0 1 f fd ["script"] (spUrn K) := by
  refine F.ok scUrn (fun vs H Q E h => ?_) (fun cdv A outer s H vs Q E hr h => ?_)
  · obtain ⟨a, ns, rfl, _⟩ := h
    rfl
  · obtain ⟨a, ns, rfl, hS, hlen, k⟩ := h
    have hu := hu_of hr
    refine ⟨_, pss_cons (ps_par rfl scUrn.nd rfl rfl (i := 1) (j := 2) (by decide) rfl rfl (pa_cons (pe_lst pa_nil) (pa_cons (pe_op op_add (pe_op op_add pe_int pe_int) (pe_callB call_len_seq (by rfl) T.len PySem.boot_len (pa_cons (pv 0) pa_nil))) pa_nil)) (by rfl))
      (pss_cons (ps_for PassesOwn.never rfl (pi_list (pe_slice sl_list (pv 0) po_none (po_some pe_int))) (pg_name (i := 3) scUrn.nd rfl (Or.inl rfl))
        (pss_cons (ps_set (i := 2) scUrn.nd rfl (Or.inl rfl) (pe_op op_modN (pe_callTy call_int1 (by rfl) T.int (by rfl) (pa_cons (pe_op op_add (pe_op op_mul (pv 2) pe_int) (pv 3)) pa_nil)) pe_int))
        (pss_one (ps_if (pt_cmpR op_gt (pe_callB call_abs (by rfl) T.abs (by rfl) (pa_cons (pv 3) pa_nil)) (pe_op op_pow pe_int pe_int) (nomark _))
          (pss_one (ps_expr (pe_bm PySem.F.plainAttrs_list PySem.F.slot_list_append PySem.F.type_list_append mt_append (pv 1) (pa_cons (pe_ifExp (pt_cmpR op_ge (pv 3) pe_int (nomark _)) (pe_op op_mul pe_int (pv 3)) (pe_op op_sub (pe_op op_mul (pe_un un_neg pe_int) (pv 3)) pe_int)) pa_nil))))
          pss_nil))))
      (pss_one (ps_ret (pe_disp (pps_cons pe_str (pv 1) (pps_cons pe_str (pv 2) (pps_cons pe_str pe_int pps_nil))) rfl rfl (by decide) (by decide))))), ?_⟩
    refine ⟨by decide, fun g hg => ?_⟩
    have s1 : Same H (upd H g (.lst [])) := same_upd hg
    refine ⟨_, _, rfl, rfl, _, rfl, a, ns.map V.int, rfl, .inl (s1.seq hS), _, _, rfl, rfl, _, _, rfl, ?_⟩
    -- the loop
    refine ⟨_, rfl, _, rfl, a, ns.map V.int, rfl, s1.seq hS, fun p hp => ?_⟩
    have hcut : cutV (ns.map V.int) none (some 63) = ns.map V.int := cut63 (by rw [List.length_map]; exact hlen)
    rw [hcut]
    have s2 : Same (upd H g (.lst [])) (upd (upd H g (.lst [])) p (.lst (ns.map V.int))) := same_upd hp
    have ng : g ≠ p := fun z => by subst z; rw [upd_same] at hp; cases hp
    have hp0 : H p = none := s1.free hp
    refine ⟨p, rfl, ⟨_, .inl (.inl upd_same)⟩, for_list (xs := ns.map V.int) (fun i σ H2 => ∃ (xs : List Int) (z : Int) (v : Option V), σ = [some (.ref a), some (.ref g), some (.int z), v] ∧ Same H H2 ∧ H2 p = some (.lst (ns.map V.int)) ∧ H2 g = some (.lst (xs.map V.int)) ∧ xs.length ≤ i)
      ⟨[], _, none, rfl, s1.trans s2, upd_same, by rw [upd_ne ng, upd_same]; rfl, Nat.le_refl _⟩ (fun i σ H2 _ ⟨_, _, _, _, _, h, _⟩ => .inl (.inl h)) ?_ ?_⟩
    · rintro i y σ H2 hi ⟨xs, z, v, rfl, s3, h1, h2, h3⟩
      obtain ⟨c, rfl⟩ : ∃ c, y = V.int c := by
        rw [List.getElem?_map] at hi
        cases e : ns[i]? with
        | none => rw [e] at hi; cases hi
        | some c => rw [e] at hi; exact ⟨c, (Option.some.inj hi).symm⟩
      have hil : i < 63 := by
        have := (List.getElem?_eq_some_iff.mp hi).1
        rw [List.length_map] at this
        omega
      refine ⟨_, rfl, _, _, rfl, rfl, .inr (by decide), _, rfl, _, _, rfl, rfl, .inl ⟨_, rfl, _, _, rfl, rfl, (by show (4294967291 : Int) ≠ 0; decide), ?_⟩⟩
      refine ⟨_, rfl, _, rfl, _, _, rfl, rfl, ⟨by decide, by decide, by decide⟩, _, _, rfl, rfl, _, rfl, ?_⟩
      refine ite2 (fun _ => ?_) (fun _ => ?_)
      · have fin : ∀ w : Int, ∃ (l : Addr) (ys : List V) (x : V), V.ref g = .ref l ∧ [V.int w] = [x] ∧ H2 l = some (.lst ys) ∧ ys.length < sizeLine ∧ True := fun w => ⟨g, _, _, rfl, rfl, h2, by rw [List.length_map, sizeLine_eq]; omega, trivial⟩
        have step : ∀ w : Int, ∃ (xs' : List Int) (z' : Int) (v' : Option V), [some (V.ref a), some (.ref g), some (.int ((z * 69069 + c).fmod 4294967291)), some (.int c)] = [some (V.ref a), some (.ref g), some (.int z'), v'] ∧ Same H (upd H2 g (.lst (xs.map V.int ++ [.int w]))) ∧ upd H2 g (.lst (xs.map V.int ++ [.int w])) p = some (.lst (ns.map V.int)) ∧
            upd H2 g (.lst (xs.map V.int ++ [.int w])) g = some (.lst (xs'.map V.int)) ∧ xs'.length ≤ i + 1 := fun w =>
          ⟨xs ++ [w], _, _, rfl, (fun b o e => by rw [upd_ne (ne_of_none e hg)]; exact s3 b o e), by rw [upd_ne (Ne.symm ng)]; exact h1, by rw [upd_same, List.map_append]; rfl, by simp; omega⟩
        refine ⟨_, rfl, .inl ⟨rfl, _, .inl (.inl h2)⟩, _, rfl, _, _, rfl, rfl, _, rfl, ?_⟩
        have hz : (xs.map V.int).length < sizeLine := by rw [List.length_map, sizeLine_eq]; omega
        refine ite2 (fun _ => ?_) (fun _ => ?_)
        · exact ⟨_, rfl, _, _, rfl, rfl, .inl (by decide), g, _, _, rfl, rfl, h2, hz, step _⟩
        · exact ⟨_, rfl, _, rfl, _, _, rfl, rfl, .inl (by decide), _, _, rfl, rfl, g, _, _, rfl, rfl, h2, hz, step _⟩
      · exact ⟨xs, _, _, rfl, s3, h1, h2, by omega⟩
    · rintro σ H2 ⟨xs, z, v, rfl, s3, h1, h2, h3⟩
      rw [List.length_map] at h3
      intro q hq
      have nq : g ≠ q := fun e => by subst e; rw [h2] at hq; cases hq
      refine ⟨_, rfl, _, rfl, upd_same, urnK g z 0, rfl, (by show 3 ≤ 15; decide), ?_⟩
      refine k q _ (fun b => b = q ∨ b = g) ⟨g, xs, z, 0, ⟨nq, by rw [upd_same]; rfl, by rw [upd_ne nq, upd_ne nq]; exact h2, by omega⟩, fun b => Iff.rfl⟩ (fun b e => ?_) fun b o e => ?_
      · rcases e with rfl | rfl
        · exact s3.free hq
        · exact hg
      · have nb : b ≠ q := fun e' => by subst e'; rw [s3 b o e] at hq; cases hq
        rw [upd_ne nb, upd_ne nb]
        exact s3 b o e
/-- one number below many -/
def takeF : List T → (T → Prop) → Prop := fun ts P => ∃ u n, ts = [.bx u, .d (.int n)] ∧ (0 < n ∧ n < 1073741824) ∧ ∀ r : Int, 0 ≤ r → r < n → P (.d (.int r))
theorem bxStep {K : PySem.W.Frag} {B : Box} {G F H H' : Hp} {σ : L2.St} {ρ : List T} {fp : Nat → Addr → Prop} {i : Nat} {u : Addr} (k : OkW K B G F H σ ρ fp) (hi : ρ[i]? = some (.bx u)) (keep : ∀ a, H a ≠ none → ¬ fp i a → H' a = H a) (h : B.at_ H' u (fp i)) : OkW K B G F H' σ ρ fp := by
  have live := k.live
  refine ⟨fun a o e => ?_, fun a o e => ?_, k.gf, k.bx, k.len, fun j t hj => ?_, k.dj, k.out, k.up⟩
  · rw [keep a (by rw [k.g a o e]; exact fun z => nomatch z) fun z => by have := (k.out i a z).1; rw [e] at this; cases this]
    exact k.g a o e
  · rw [keep a (by rw [k.f a o e]; exact fun z => nomatch z) fun z => by have := (k.out i a z).2; rw [e] at this; cases this]
    exact k.f a o e
  · by_cases e : j = i
    · subst e
      rw [hi] at hj
      cases hj
      exact ⟨(k.own j _ hi).1, h⟩
    · exact (k.own j t hj).frame (fun a ha => keep a (live j a ha) fun z => e (k.dj j i a ha z)) (Same.refl F)
theorem shapedInts (xs : List Int) : SeqAt.shaped (.list (xs.map .int)) = true := by
  have h : ∀ xs : List Int, PyData.canLayAll0 (xs.map .int) = true ∧ PyData.depthAll (xs.map .int) = 0 := fun xs => by
    induction xs with
    | nil => exact ⟨rfl, rfl⟩
    | cons x xs ih => exact ⟨by simp [PyData.canLayAll0, PyData.canLay0, ih.1], by simp [PyData.depthAll, PyData.depth, ih.2]⟩
  simp [SeqAt.shaped, PyData.canLay0, PyData.depth, h]
theorem dpInts {K : PySem.W.Frag} {H : Hp} : ∀ xs : List Int, DpAll K H (xs.map V.int) (xs.map .int)
  | [] => .nil
  | x :: xs => .cons (.int x) (dpInts xs)
theorem fmB (a : Int) {m : Int} (h : 0 < m) : 0 ≤ a.fmod m ∧ a.fmod m < m := ⟨Int.fmod_nonneg_of_pos a h, Int.fmod_lt_of_pos a h⟩
theorem seqMid {t v : TS} {D : Ends} {σ : L2.St} {H : Hp} {R : L2.St → Hp → Prop} (h1 : ∀ D' : Ends, (∀ σ H, R σ H → D'.nx σ H) → t D' σ H) (h2 : ∀ σ H, R σ H → v D σ H) : tSeq t v D σ H := h1 _ h2
theorem scTake : FnScope ["urn", "many", "cell", "found"] ["urn", "many"] (defScope sTake) := ⟨rfl, rfl, rfl, by decide +kernel, rfl, by decide +kernel, by decide +kernel⟩
theorem keyG : ("great" : Str) = "great" := rfl
section
variable {H H0 : Hp} {u g : Addr} {xs : List Int} {z t n : Int} {c d : Option V}
/-- what the walk of the def keeps -/
structure Jn (H0 H : Hp) (u g : Addr) (xs : List Int) (z t : Int) : Prop where
  at_ : UrnAt H u g xs z t
  kp : ∀ a, H0 a ≠ none → a ≠ u → a ≠ g → H a = H0 a
theorem Jn.free (J : Jn H0 H u g xs z t) {p : Addr} (hp : H p = none) (o : HO) : Jn H0 (upd H p o) u g xs z t := by
  have nu : u ≠ p := fun e => by subst e; rw [J.at_.ud] at hp; cases hp
  have ng : g ≠ p := fun e => by subst e; rw [J.at_.gl] at hp; cases hp
  refine ⟨⟨J.at_.ne, (upd_ne nu).trans J.at_.ud, (upd_ne ng).trans J.at_.gl, J.at_.few⟩, fun a h0 h1 h2 => ?_⟩
  have e := J.kp a h0 h1 h2
  rw [upd_ne (fun e' => by subst e'; rw [hp] at e; exact h0 e.symm)]
  exact e
theorem Jn.set (J : Jn H0 H u g xs z t) {ys : List Int} (hy : ys.length ≤ 63) : Jn H0 (upd H g (.lst (ys.map V.int))) u g ys z t :=
  ⟨⟨J.at_.ne, (upd_ne (Ne.symm J.at_.ne)).trans J.at_.ud, upd_same, hy⟩, fun a h0 h1 h2 => (upd_ne h2).trans (J.kp a h0 h1 h2)⟩
theorem Jn.turn (J : Jn H0 H u g xs z t) (t' : Int) : Jn H0 (upd H u (.dK (urnK g z t'))) u g xs z t' :=
  ⟨⟨J.at_.ne, upd_same, (upd_ne J.at_.ne).trans J.at_.gl, J.at_.few⟩, fun a h0 h1 h2 => (upd_ne h1).trans (J.kp a h0 h1 h2)⟩
/-- urn['great'] and the like -/
theorem rdK {σ : L2.St} {Q : VK} {k : Str} {v : V} (J : Jn H0 H u g xs z t) (h0 : σ[0]? = some (some (.ref u))) (hv : valV (urnK g z t) (.inr k) = some v) (q : Q v H) : tDGet (tVar 0) (tC (.str k)) σ H Q :=
  ⟨_, h0, u, v, rfl, by have := DGet.k (k := Sum.inr k) J.at_.ud; rw [hv] at this; exact this, q⟩
end
theorem ok_take {f : Addr} {fd : FuncData} (F : Fun K "_law_take" "_law_take" sTake f fd) (T : Tx mg) : FnOk P w K mg base CX0 1 f fd ["urn", "many"] (spP K urnBox 2 takeF) := by
  refine F.ok scTake (spP_len) (fun cdv A outer s H vs Q E hr h => ?_)
  obtain ⟨G, F0, ts, Pq, hl, harg, ok, hφ, q⟩ := h
  obtain ⟨u, n, rfl, ⟨n0, n1⟩, hP⟩ := hφ
  obtain ⟨fp, ok⟩ := ok
  have hu := hu_of hr
  have hu64 : (A.deeper (PyProof.Rows.envOfC "_law_take" (defScope sTake) s.heap.objs.size f cdv)).units + 64 < cLine := hr.units
  obtain ⟨v0, v1, rfl⟩ : ∃ v0 v1, vs = [v0, v1] := by
    have e := ok.len
    simp at e
    match vs, e with
    | [a, b], _ => exact ⟨a, b, rfl⟩
  obtain ⟨e0, g, xs0, z, t0, hat, hfp⟩ := ok.own 0 _ rfl
  obtain ⟨_, v, e1, rv⟩ := ok.own 1 _ rfl
  cases e0
  cases rv
  cases e1
  have dn : ∀ (H' : Hp) (xs : List Int) (t : Int) (r : Int), Jn H H' u g xs z t → 0 ≤ r → r < n → Q (.int r) H' := fun H' xs t r J r0 r1 => by
    have k1 := bxStep (H' := H') ok (i := 0) (u := u) rfl (fun a ha hf => J.kp a ha (fun e => hf ((hfp a).mpr (.inl e))) fun e => hf ((hfp a).mpr (.inr e))) ⟨g, xs, z, t, J.at_, hfp⟩
    exact q _ _ H' F0 (hP r r0 r1) trivial (Ok.pushD ⟨_, k1⟩ (.int r)) (Same.refl F0)
  have J0 : Jn H H u g xs0 z t0 := ⟨hat, fun a _ _ _ => rfl⟩
  have rdG := @rdK
  refine ⟨_, pss_cons (ps_while PassesOwn.never (pw_and (pt_cmpR (op_neD hu64) (pe_dget hu (pv 0) pe_str (fun _ _ => rfl)) (pe_lst pa_nil) (nomark _))
      (pw_and1 (pt_cmpR op_eq (pe_ix ix_seq (pe_dget hu (pv 0) pe_str (fun _ _ => rfl)) (pe_un un_neg pe_int) (fun _ _ => rfl)) pe_int (nomark _)))).pt
      (pss_one (ps_expr (pe_bm0 PySem.F.plainAttrs_list PySem.F.slot_list_pop PySem.F.type_list_pop mt_pop (pe_dget hu (pv 0) pe_str (fun _ _ => rfl))))))
    (pss_cons (ps_if (pt_cmpR (op_neD hu64) (pe_dget hu (pv 0) pe_str (fun _ _ => rfl)) (pe_lst pa_nil) (nomark _))
      (pss_cons (ps_set (i := 2) scTake.nd rfl (Or.inl rfl) (pe_bm0 PySem.F.plainAttrs_list PySem.F.slot_list_pop PySem.F.type_list_pop mt_pop (pe_dget hu (pv 0) pe_str (fun _ _ => rfl))))
        (pss_cons (ps_expr (pe_bm PySem.F.plainAttrs_list PySem.F.slot_list_append PySem.F.type_list_append mt_append (pe_dget hu (pv 0) pe_str (fun _ _ => rfl)) (pa_cons (pe_op op_fdivN (pv 2) (pv 1)) pa_nil)))
          (pss_one (ps_ret (pe_callTy call_int1 (by rfl) T.int (by rfl) (pa_cons (pe_op op_modN (pv 2) (pv 1)) pa_nil))))))
      pss_nil)
    (pss_cons (ps_dput hu (pv 0) pe_str (pe_op op_add (pe_dget hu (pv 0) pe_str (fun _ _ => rfl)) pe_int) rfl)
    (pss_cons (ps_set (i := 3) scTake.nd rfl (Or.inl rfl) (pe_op op_modN (pe_callTy call_int1 (by rfl) T.int (by rfl) (pa_cons (pe_op op_add (pe_dget hu (pv 0) pe_str (fun _ _ => rfl)) (pe_op op_mul (pe_dget hu (pv 0) pe_str (fun _ _ => rfl)) pe_int)) pa_nil)) pe_int))
    (pss_cons (ps_set (i := 3) scTake.nd rfl (Or.inl rfl) (pe_op op_modN (pe_callTy call_int1 (by rfl) T.int (by rfl) (pa_cons (pe_op op_add (pe_op op_add (pe_op op_mul (pv 3) (pv 3)) (pe_op op_mul (pe_dget hu (pv 0) pe_str (fun _ _ => rfl)) pe_int)) pe_int) pa_nil)) pe_int))
    (pss_cons (ps_set (i := 3) scTake.nd rfl (Or.inl rfl) (pe_op op_modN (pe_callTy call_int1 (by rfl) T.int (by rfl) (pa_cons (pe_op op_add (pe_op op_mul (pv 3) pe_int) (pe_dget hu (pv 0) pe_str (fun _ _ => rfl))) pa_nil)) pe_int))
    (pss_one (ps_ret (pe_op op_modN (pe_callTy call_int1 (by rfl) T.int (by rfl) (pa_cons (pe_op op_fdivN (pv 3) pe_int) pa_nil)) (pv 1))))))))), ?_⟩
  -- the while
  have tst : ∀ {H' : Hp} {xs : List Int} {t : Int} {σ : L2.St} {Q' : Bool → Hp → Prop}, Jn H H' u g xs z t → σ[0]? = some (some (.ref u)) → (∀ p, H' p = none → Jn H (upd H' p (.lst [])) u g xs z t → Q' (!xs.isEmpty) (upd H' p (.lst []))) →
      tTest (tOp (rNeD K) (tDGet (tVar 0) (tC (.str "great"))) (tLst tNil)) σ H' Q' := fun {H' xs t σ Q'} J h0 hq => by
    refine rdK J h0 (urn_g _ _ _) ⟨by decide, fun p hp => ?_⟩
    have J1 := J.free hp (.lst [])
    refine ⟨.list (xs.map .int), .list [], .lst (.inl (.inl J1.at_.gl)) (dpInts xs), .lst (.inl (.inl upd_same)) .nil, shapedInts xs, rfl, !xs.isEmpty, ?_, hq p hp J1⟩
    cases xs <;> rfl
  have two : ∀ {A1 A2 : Prop} {xs : List Int}, (xs = [] → A2) → (∀ ys y, xs = ys ++ [y] → A1) → (if (!xs.isEmpty) = true then A1 else A2) := fun {A1 A2 xs} h1 h2 => by
    cases e : xs with
    | nil => exact iteF (h1 e)
    | cons a r =>
      refine iteT ?_
      have hne : xs ≠ [] := by rw [e]; exact fun z => nomatch z
      exact h2 xs.dropLast (xs.getLast hne) (List.dropLast_concat_getLast hne).symm
  have last : ∀ (ys : List Int) (y : Int), ((ys ++ [y]).map V.int)[((ys ++ [y]).map V.int).length - 1]? = some (V.int y) ∧ ((ys ++ [y]).map V.int).dropLast = ys.map V.int := fun ys y => by
    rw [List.map_append]
    refine ⟨?_, ?_⟩
    · simp
    · show (ys.map V.int ++ [V.int y]).dropLast = _
      rw [List.dropLast_concat]
  refine seqMid (R := fun σ H' => σ = [some (.ref u), some (.int n), none, none] ∧ ∃ xs, Jn H H' u g xs z t0) (fun D' hD => ?_) fun σ H' ⟨e, xs, J1⟩ => ?rest
  case rest =>
    subst e
    refine tst J1 rfl fun p2 hp2 J2 => two (fun e => ?x2) fun ys y e => ?x1
    case x1 =>
      subst e
      have hl : (ys ++ [y]).length ≤ 63 := J2.at_.few
      refine rdK J2 rfl (urn_g _ _ _) ⟨.inl ⟨rfl, _, .inl (.inl J2.at_.gl)⟩, g, _, .int y, rfl, rfl, J2.at_.gl, (last ys y).1, ?_⟩
      rw [(last ys y).2]
      have J3 := J2.set (ys := ys) (by simp at hl; omega)
      refine rdK J3 rfl (urn_g _ _ _) ⟨.inl ⟨rfl, _, .inl (.inl J3.at_.gl)⟩, _, rfl, _, rfl, _, _, rfl, rfl, ⟨by omega, by omega⟩, g, _, _, rfl, rfl, J3.at_.gl, (by rw [List.length_map, sizeLine_eq]; simp at hl; omega), ?_⟩
      have J4 := J3.set (ys := ys ++ [y.fdiv n]) (by simpa using hl)
      rw [List.map_append] at J4
      exact ⟨_, rfl, _, rfl, _, _, rfl, rfl, (by show n ≠ 0; omega), .inl ⟨_, rfl, dn _ _ _ _ J4 (fmB y n0).1 (fmB y n0).2⟩⟩
    case x2 =>
      have J3 := J2.turn (t0 + 1)
      refine rdK J2 rfl (urn_t _ _ _) ⟨_, _, rfl, rfl, _, rfl, u, _, rfl, .inl ⟨_, Sum.inr "turn", J2.at_.ud, rfl, (by show 3 < sizeLine; rw [sizeLine_eq]; omega), rfl⟩, ?_⟩
      refine rdK J3 rfl (urn_s _ _ _) (rdK J3 rfl (urn_t _ _ _) ⟨_, _, rfl, rfl, .inr (by decide), _, _, rfl, rfl, .inl ⟨_, rfl, _, _, rfl, rfl, (by show (4294967279 : Int) ≠ 0; decide), ?_⟩⟩)
      have b1 := fmB (z + (t0 + 1) * 2654435761) (m := 4294967279) (by decide)
      refine ⟨_, rfl, _, rfl, _, _, rfl, rfl, .inl (by constructor <;> omega), rdK J3 rfl (urn_t _ _ _) ⟨_, _, rfl, rfl, .inr (by decide), _, _, rfl, rfl, _, _, rfl, rfl, .inl ⟨_, rfl, _, _, rfl, rfl, (by show (4294967291 : Int) ≠ 0; decide), ?_⟩⟩⟩
      refine ⟨_, rfl, _, _, rfl, rfl, .inr (by decide), rdK J3 rfl (urn_s _ _ _) ⟨_, _, rfl, rfl, .inl ⟨_, rfl, _, _, rfl, rfl, (by show (4294967231 : Int) ≠ 0; decide), ?_⟩⟩⟩
      exact ⟨_, rfl, _, _, rfl, rfl, ⟨by decide, by decide⟩, .inl ⟨_, rfl, _, rfl, _, _, rfl, rfl, (by show n ≠ 0; omega), dn _ _ _ _ J3 (fmB _ n0).1 (fmB _ n0).2⟩⟩
  refine ⟨fun m σ H' => ∃ xs, m = xs.length ∧ σ = [some (.ref u), some (.int n), none, none] ∧ Jn H H' u g xs z t0, ⟨_, xs0, rfl, rfl, J0⟩, ?_⟩
  rintro m σ H1 ⟨xs, rfl, rfl, J⟩
  refine tst J rfl fun p hp J1 => ?_
  refine two (fun e => ?o1) fun ys y e => ?c1
  case c1 =>
    have hl : xs.length ≤ 63 := J.at_.few
    have hla : atI (xs.map V.int) (-1) = some (.int y) := by
      subst e
      unfold atI ixN
      have := (last ys y).1
      rw [List.length_map, List.length_append, List.length_singleton] at this ⊢
      simp only [Nat.add_sub_cancel] at this
      rw [if_neg (by decide), if_pos (by omega)]
      have e2 : ((-1 : Int) + ((ys.length + 1 : Nat) : Int)).toNat = ys.length := by omega
      rw [e2]
      exact this
    refine rdK J1 rfl (urn_g _ _ _) ⟨_, rfl, .inl ⟨g, _, _, .int y, rfl, rfl, .inl (.inl J1.at_.gl), hla, rfl, _, rfl, ?_⟩⟩
    refine ite2 (fun _ => ?b1) (fun _ => ?o2)
    case b1 =>
      subst e
      refine ⟨fun σ H' => σ = [some (.ref u), some (.int n), none, none] ∧ Jn H H' u g ys z t0, fun σ' H' ⟨e, J'⟩ => ⟨ys.length, by simp, ys, rfl, e, J'⟩, ?_⟩
      refine rdK J1 rfl (urn_g _ _ _) ⟨.inl ⟨rfl, _, .inl (.inl J1.at_.gl)⟩, g, _, .int y, rfl, rfl, J1.at_.gl, (last ys y).1, ?_⟩
      rw [(last ys y).2]
      exact ⟨rfl, J1.set (by simp at hl; omega)⟩
    case o2 => exact hD _ _ ⟨rfl, xs, J1⟩
  case o1 => exact hD _ _ ⟨rfl, xs, J1⟩
end
end C60

set_option Elab.async false
set_option linter.all false
set_option maxRecDepth 100000
namespace C60
open PySem L2 PL PM
def initOf : Stmt → Stmt
  | .ClassDef _ _ _ body _ _ _ _ _ _ _ => body.getD 0 (.Pass ⟨0, 0, 0, 0⟩)
  | s => s
abbrev sIUnfit : Stmt := initOf (top 2)
theorem scIUnfit : SupS ["self"] (defScope sIUnfit) := ⟨by decide +kernel, by decide +kernel, rfl, rfl, rfl, rfl, rfl, fun _ _ _ _ _ => rfl⟩
theorem mkUnfit {P : Program} {K : PySem.W.Frag} {C fI : Addr} (T : SupC P K C fI "Unfit.__init__" (defArgs sIUnfit) (defBody sIUnfit) (defScope sIUnfit)) : Mk0 P K C :=
  .mk (x := "self") T scIUnfit rfl rfl (fun _ _ _ _ _ _ _ _ => rfl) (fun _ _ _ => ⟨_, rfl⟩)
end C60

set_option Elab.async false
set_option linter.all false
set_option maxRecDepth 100000
namespace C60
open PySem L2 PL PM
/-! ### machines -/
structure M where
  sg : List Nat
  b : Nat
  st : List (List Nat)
  en : List Nat
def rowsD (st : List (List Nat)) : List D := st.map fun r => .tuple (nats r)
def M.d (m : M) : D := .tuple [.str (PL.sg m.sg), .int (m.b : Nat), .tuple (rowsD m.st), .tuple (nats m.en)]
structure MOk (m : M) (n : Nat) : Prop where
  tab : Tab m.st n m.sg.length
  b : m.b < n
def standF : List T → (T → Prop) → Prop := fun ts P => ∃ (m : M) (n s c : Nat), ts = [.d m.d, .d (.int (s : Nat)), .d (.str (PL.sg [c]))] ∧ Tab m.st n m.sg.length ∧ s < n ∧ c ∈ m.sg ∧ P (.d (.int (nx m.st s ((ixOf c m.sg).getD 0) : Nat)))
def takenF : List T → (T → Prop) → Prop := fun ts P => ∃ (m : M) (n : Nat) (row : List Nat), ts = [.d m.d, .d (.str (PL.sg row))] ∧ MOk m n ∧ (∀ c ∈ row, c ∈ m.sg) ∧ P (.d (.bool (decide (rn m.st m.b (ixs m.sg row) ∈ m.en))))
def partedF : List T → (T → Prop) → Prop := fun ts P => ∃ (st : List (List Nat)) (en : List Nat) (n k : Nat), ts = [.d (.tuple (rowsD st)), .d (.tuple (nats en))] ∧ Tab st n k ∧ n < 64 ∧ k < 64 ∧ ∀ lots, Lots st en n k lots → (∀ x ∈ lots, x < 64) → P (.d (.list (nats lots)))
def leastF : List T → (T → Prop) → Prop := fun ts P => ∃ (sgl : List Nat) (b : Nat) (st : List (List Nat)) (en : List Nat) (n k : Nat), ts = [.d (.str (sg sgl)), .d (.int (b : Nat)), .d (.tuple (rowsD st)), .d (.tuple (nats en))] ∧ Tab st n k ∧ n < 64 ∧ k < 64 ∧ b < n ∧
  ∀ lots p, Lots st en n k lots → Live st lots b p → (it st lots b p).length ≤ p → P (.d (M.mk sgl 0 (itemsOf st lots (it st lots b p)) (endsOf en (it st lots b p))).d)
abbrev sLeast : Stmt := top 5
abbrev sParted : Stmt := top 4
theorem rows_get {st : List (List Nat)} {s : Nat} {r : List Nat} (h : st[s]? = some r) : (rowsD st)[s]? = some (.tuple (nats r)) := by simp [rowsD, h]
theorem rows_len (st : List (List Nat)) : (rowsD st).length = st.length := by simp [rowsD]
theorem nats_len (st : List Nat) : (nats st).length = st.length := by simp [nats]
structure Ty2 (mg : Str → Option Value) : Prop where
  len : mg "len" = none
  int : mg "int" = none
  abs : mg "abs" = none
  range : mg "range" = none
  enumerate : mg "enumerate" = none
  sorted : mg "sorted" = none
  set : mg "set" = none
  tuple : mg "tuple" = none
  list : mg "list" = none
  zip : mg "zip" = none
  min : mg "min" = none
  repr : mg "repr" = none
section
variable {P : Program} {w : World} {K : PySem.W.Frag} {mg : Str → Option Value} {base : Heap}
theorem scParted : FnScope ["steps", "ends", "lots", "marks", "known", "stand", "item", "goal", "mark"] ["steps", "ends"] (defScope sParted) := ⟨rfl, rfl, rfl, by decide +kernel, rfl, by decide +kernel, by decide +kernel⟩
set_option maxHeartbeats 1000000 in
theorem ok_parted {f : Addr} {fd : FuncData} (F : Fun K "parted" "parted" sParted f fd) (T : Ty2 mg) : FnG P w K mg base CX0 1 f fd ["steps", "ends"] (spP K urnBox 2 partedF) := by
  refine fnP F scParted fun cdv A outer s H E hr ts Pq hl hφ => ?_
  have S := @scParted
  have hu65 : (A.deeper (PyProof.Rows.envOfC "parted" (defScope sParted) s.heap.objs.size f cdv)).units + 65 < cLine := by have := hr.un; omega
  have hu64 : (A.deeper (PyProof.Rows.envOfC "parted" (defScope sParted) s.heap.objs.size f cdv)).units + 64 < cLine := hr.units
  obtain ⟨st, en, n, k, rfl, hT, hn, hk, hP⟩ := hφ
  refine ⟨_, (s_cons (s_set (i := 2) S.nd (q_lc (own := [("stand", 5)]) rfl S.nd (i_range1 (by rfl) T.range (a_cons (q_callB c_len call_lenP (by rfl) T.len (by rfl) (a_cons (q_al 0) a_nil)) a_nil)) (blkOk_by (by kernel_rfl)) (fun _ _ _ _ _ => (gv_name (i := 5) S.nd)) (fun _ _ _ _ _ => ts_nil) (fun _ _ _ _ _ => (q_callTy c_int call_intP (by rfl) T.int (by rfl) (a_cons (q_cmp o_in (op_inP hu65) (q_al 5) (q_al 1) (by rfl)) a_nil)))))
      (s_one (s_while PassesOwn.never (t_val (q_bl)) (s_cons (s_setLc (i := 3) (own := [("stand", 5), ("item", 6)]) rfl S.nd (sw_true rfl rfl rfl (by decide +kernel)) (i_enumT (by rfl) T.enumerate (a_cons (q_var 0) a_nil)) (blkOk_by (by kernel_rfl)) (fun _ _ _ _ _ => (gv_tup (n := 2) rfl (gvs_cons (gv_name (i := 5) S.nd) (gvs_cons (gv_name (i := 6) S.nd) gvs_nil)))) (fun _ _ _ _ _ => ts_nil) (fun _ _ _ _ _ => (q_tup (a_cons (q_ix (q_al 2) (q_var 5)) (a_star (q_lc (own := [("goal", 7)]) rfl S.nd (i_tup (q_var 6)) (blkOk_by (by kernel_rfl)) (fun _ _ _ _ _ => (gv_name (i := 7) S.nd)) (fun _ _ _ _ _ => ts_nil) (fun _ _ _ _ _ => (q_ix (q_al 2) (q_var 7)))) a_nil)))))
      (s_cons (s_set (i := 4) S.nd (q_sortSet rfl hu64 (by rfl) T.sorted (by rfl) T.set (q_al 3)))
      (s_cons (s_if (t_cmp o_eq (op_eqD hu64) (q_callB c_len call_lenP (by rfl) T.len (by rfl) (a_cons (q_al 4) a_nil)) (q_lenSet rfl (by rfl) T.len (by rfl) T.set (q_al 2)) (nomark _)) (s_one (s_ret (q_var 2))) s_nil)
      (s_one (s_set (i := 2) S.nd (q_lc (own := [("mark", 8)]) rfl S.nd (i_list (q_var 3)) (blkOk_by (by kernel_rfl)) (fun _ _ _ _ _ => (gv_name (i := 8) S.nd)) (fun _ _ _ _ _ => ts_nil) (fun _ _ _ _ _ => (q_index hu65 (q_al 4) (q_var 8)))))))))))), ?_⟩
  have hlen := hT.len
  have sz : ∀ {m : Nat}, m < 64 → m ≤ sizeLine := fun h => by rw [sizeLine_eq]; omega
  have enT : ∀ s : Nat, pIn false (.int (s : Nat)) (.tuple (nats en)) = fun Q : PL.T → Prop => SeqAt.shaped (.int (s : Nat)) = true ∧ SeqAt.shaped (.tuple (nats en)) = true ∧ Q (.d (.bool (decide (s ∈ en)))) := fun s => by
    funext Q
    simp only [pIn, any_nats, Bool.false_xor]
  simp? only [PL.z1]
  -- the first lots
  refine lc_mapS (rangeD 0 n) (nats ((List.range n).map fun s => if s ∈ en then 1 else 0)) (fun R hR => ?_) (by simp [barePl, PL.T.bare]) (by simp [nats, rangeD]) (by rw [rangeD_len]; exact sz hn) (fun i d o hd ho R hR => ?_) ?_
  · simp? only [rows_len, hlen]
    refine ⟨⟨by omega, by omega⟩, ?_⟩
    simpa using hR
  · have hi : i < n := by have := (List.getElem?_eq_some_iff.mp hd).1; rwa [rangeD_len] at this
    rw [nats_range hi] at hd
    cases hd
    simp? only [wipeP, enT]
    refine ⟨(lay_int (k := 0) _).shaped, (lay_tup (k := 0) (lay_nats _)).shaped, hR _ _ ?_ rfl⟩
    have e : ((List.range n).map fun s => if s ∈ en then 1 else 0)[i]? = some (if i ∈ en then 1 else 0) := by simp [hi]
    rw [nats_get e] at ho
    cases ho
    simp only [PL.T.dat]
    by_cases q : i ∈ en <;> simp [q, PL.bi]
  · simp? only [PL.z1]
    refine ⟨fun m ρ => ∃ (lots L : List Nat) (t3 t4 : PL.T), Coarse st en n k lots ∧ (∀ x ∈ lots, x < 64) ∧ L.Nodup ∧ (∀ x, x ∈ L ↔ ∃ s, s < n ∧ lo lots s = x) ∧ m = n - L.length ∧
      ρ = [.d (.tuple (rowsD st)), .d (.tuple (nats en)), .l (nats lots), t3, t4, .un, .un, .un, .un], ?_, ?_⟩
    · obtain ⟨L, nl, hL⟩ : ∃ L : List Nat, L.Nodup ∧ ∀ x, x ∈ L ↔ ∃ s, s < n ∧ lo ((List.range n).map fun s => if s ∈ en then 1 else 0) s = x := by
        obtain ⟨L, nl, hL⟩ := distinct ((List.range n).map (lo ((List.range n).map fun s => if s ∈ en then 1 else 0)))
        exact ⟨L, nl, fun x => by rw [hL x]; simp⟩
      exact ⟨_, _, L, .un, .un, coarse0, fun x hx => by obtain ⟨s, _, rfl⟩ := List.mem_map.mp hx; split <;> omega, nl, hL, rfl, rfl⟩
    rintro m ρ ⟨lots, L, t3, t4, hC, hx, nl, hL, rfl, rfl⟩
    have hlo := hC.len
    have lget : ∀ s, s < n → (nats lots)[s]? = some (.int (lo lots s : Nat)) := fun s hs => nats_get (lo_lt (by omega))
    simp? only [PL.z1]
    -- the marks
    refine lc_mapS (enumD (rowsD st)) ((List.range n).map fun s => .tuple (nats (mark st lots s))) (fun R hR => ?_) (by simp [barePl, PL.T.bare]) (by simp [enumD_len, rows_len, hlen]) (by rw [enumD_len, rows_len, hlen]; exact sz hn) (fun i d o hd ho R hR => ?_) ?_
    · simp? only [PL.z1]
      exact hR
    · have hi : i < n := by have := (List.getElem?_eq_some_iff.mp hd).1; rwa [enumD_len, rows_len, hlen] at this
      obtain ⟨r, hr1, hr2, hr3⟩ := hT.row i hi
      rw [enumD_get (rows_get hr1)] at hd
      cases hd
      simp? only [wipeP, lget i hi]
      refine lc_mapS (nats r) (nats (r.map (lo lots))) (fun R' hR' => ?_) (by simp [barePl, PL.T.bare]) (by simp [nats]) (by rw [nats_len, hr2]; exact sz hk) (fun j d o hd ho R' hR' => ?_) ?_
      · simp? only [PL.z1]
        exact hR'
      · obtain ⟨g, hg⟩ : ∃ g, r[j]? = some g := by
          have := (List.getElem?_eq_some_iff.mp hd).1
          rw [nats_len] at this
          exact ⟨_, List.getElem?_eq_getElem this⟩
        rw [nats_get hg] at hd
        cases hd
        have hgn := hr3 g (List.mem_of_getElem? hg)
        simp? only [wipeP, lget g hgn]
        refine hR' _ _ ?_ rfl
        rw [nats_get (n := lo lots g) (by simp [hg])] at ho
        exact ho
      · simp? only [PL.z1]
        refine ⟨by rw [nats_len, List.length_map, hr2, sizeLine_eq]; omega, hR _ _ ?_ rfl⟩
        have e : ((List.range n).map fun s => PyData.tuple (nats (mark st lots s)))[i]? = some (.tuple (nats (mark st lots i))) := by simp [hi]
        rw [e] at ho
        cases ho
        simp only [PL.T.dat, mark, List.getD_eq_getElem?_getD, hr1, Option.getD_some]
        rfl
    · have hmk : ((List.range n).map fun s => PyData.tuple (nats (mark st lots s))) = ((List.range n).map (mark st lots)).map fun r => .tuple (nats r) := by rw [List.map_map]; rfl
      simp? only [PL.z1]
      rw [hmk]
      refine pSortSet_nat _ (k + 1) (by simpa using hn) (by omega) (fun q hq => ?_) fun known nd hkn h64 => ?_
      · obtain ⟨s, hs, rfl⟩ := List.mem_map.mp hq
        have hs := List.mem_range.mp hs
        obtain ⟨r, hr1, hr2, hr3⟩ := hT.row s hs
        have lx : ∀ s, s < n → lo lots s < 64 := fun s hs => hx _ (List.mem_of_getElem? (lo_lt (by omega)))
        refine ⟨by simp [mark, List.getD_eq_getElem?_getD, hr1, hr2], fun x hx' => ?_⟩
        rcases List.mem_cons.mp hx' with rfl | z
        · exact lx s hs
        · obtain ⟨g, hg, rfl⟩ := List.mem_map.mp z
          simp only [List.getD_eq_getElem?_getD, hr1, Option.getD_some] at hg
          exact lx g (hr3 g hg)
      have hm : ∀ x, x ∈ known ↔ ∃ s, s < n ∧ mark st lots s = x := fun x => by rw [hkn x]; simp
      simp? only [PL.z1]
      refine pLenSet_nat lots (by omega) fun l ndl hl => ⟨(lay_int (k := 0) _).shaped, (lay_int (k := 0) _).shaped, ?_⟩
      have hL' : ∀ x, x ∈ l ↔ ∃ s, s < n ∧ lo lots s = x := fun x => by
        rw [hl x, List.mem_iff_getElem?]
        constructor
        · rintro ⟨s, hs⟩
          have h1 := (List.getElem?_eq_some_iff.mp hs).1
          rw [lo_lt h1] at hs
          exact ⟨s, by omega, Option.some.inj hs⟩
        · rintro ⟨s, hs, e⟩
          exact ⟨s, by rw [lo_lt (by omega), e]⟩
      have eL : l.length = L.length := Nat.le_antisymm (sub_len ndl fun x hx => (hL x).mpr ((hL' x).mp hx)) (sub_len nl fun x hx => (hL' x).mpr ((hL x).mp hx))
      have more := marks_more hm ndl hL'
      have ekn : known.length ≤ n := by
        have := sub_len nd (b := (List.range n).map (mark st lots)) fun x hx => (hkn x).mp hx
        simpa using this
      refine ite2 (fun e => ?_) (fun e => ?_)
      · -- as many: done
        have e2 : known.length = l.length := by
          simp [PyData.eqv] at e
          omega
        exact hP lots (lots_done hT hC nd hm ndl hL' e2) hx
      · have e2 : known.length ≠ l.length := fun z => e (by simp [PyData.eqv, z])
        -- the marks' places are the next lots
        have hpos : ∀ s, s < n → ∃ j, ixOf (mark st lots s) known = some j := fun s hs => ixOf_mem ((hm _).mpr ⟨s, hs, rfl⟩)
        refine lc_mapT (((List.range n).map (mark st lots)).map fun r => .tuple (nats r)) [.d (.tuple (rowsD st)), .d (.tuple (nats en)), .l (nats lots), .d (.list (((List.range n).map (mark st lots)).map fun r => .tuple (nats r))), .l (known.map fun r => .tuple (nats r)), .un, .un, .un, .un]
          (nats ((List.range n).map fun s => (ixOf (mark st lots s) known).getD 0)) (fun R hR => ?_) (by simp [barePl, PL.T.bare]) (by simp [nats]) (by simp; exact sz hn) (fun i d o hd ho R hR => ?_) ?_
        · simp? only [PL.z1]
          exact hR
        · have hi : i < n := by have := (List.getElem?_eq_some_iff.mp hd).1; simpa using this
          have e3 : (((List.range n).map (mark st lots)).map fun r => PyData.tuple (nats r))[i]? = some (.tuple (nats (mark st lots i))) := by simp [hi]
          rw [e3] at hd
          cases hd
          obtain ⟨j, hj⟩ := hpos i hi
          obtain ⟨h1, h2⟩ := ixOf_at hj
          have e4 : ((List.range n).map fun s => (ixOf (mark st lots s) known).getD 0)[i]? = some j := by simp [hi, hj]
          rw [nats_get e4] at ho
          cases ho
          simp? only [wipeP]
          refine ⟨⟨_, rfl⟩, pIndex_of (j := j) (rows_shaped known) ((lay_tup (k := 0) (lay_nats _)).shaped) (rows_nob known) nob_tup (by simp [h1]) (fun m hm' z => ?_) (hR _ _ rfl rfl)⟩
          cases q : known[m]? with
          | none => simp [q] at z
          | some r =>
            rw [List.getElem?_map, q] at z
            have := tup_inj (Option.some.inj z)
            subst this
            exact h2 m hm' q
        · simp? only [PL.z1]
          have e5 : ∀ s, s < n → lo ((List.range n).map fun s => (ixOf (mark st lots s) known).getD 0) s = (ixOf (mark st lots s) known).getD 0 := fun s hs => by
            simp [lo, List.getD_eq_getElem?_getD, hs]
          have e6 : ∀ s, s < n → known[lo ((List.range n).map fun s => (ixOf (mark st lots s) known).getD 0) s]? = some (mark st lots s) := fun s hs => by
            obtain ⟨j, hj⟩ := hpos s hs
            rw [e5 s hs, hj]
            exact (ixOf_at hj).1
          refine ⟨n - known.length, by omega, _, List.range known.length, .d (.list (((List.range n).map (mark st lots)).map fun r => .tuple (nats r))), .l (known.map fun r => .tuple (nats r)), coarse_next hT hC nd hm (by simp) e6, fun x hx' => ?_, List.nodup_range, fun x => ?_, by simp, rfl⟩
          · obtain ⟨s, hs, rfl⟩ := List.mem_map.mp hx'
            obtain ⟨j, hj⟩ := hpos s (List.mem_range.mp hs)
            have := (List.getElem?_eq_some_iff.mp (ixOf_at hj).1).1
            rw [hj, Option.getD_some]
            omega
          · rw [List.mem_range]
            constructor
            · intro hxl
              obtain ⟨s, hs, e⟩ := (hm _).mp (List.getElem_mem hxl)
              refine ⟨s, hs, ?_⟩
              rw [e5 s hs, e, ixOf_nodup nd (List.getElem?_eq_getElem hxl)]
              rfl
            · rintro ⟨s, hs, rfl⟩
              exact (List.getElem?_eq_some_iff.mp (e6 s hs)).1
theorem scLeast : FnScope ["signs", "begin", "steps", "ends", "lots", "order", "shown", "place", "goal", "items", "stand"] ["signs", "begin", "steps", "ends"] (defScope sLeast) := ⟨rfl, rfl, rfl, by decide +kernel, rfl, by decide +kernel, by decide +kernel⟩
structure GLeast (P : Program) (w : World) (K : PySem.W.Frag) (mg : Str → Option Value) (base : Heap) : Prop where
  parted : Cal P w K mg base urnBox 1 "parted" ["steps", "ends"] 2 partedF
set_option maxHeartbeats 1000000 in
theorem ok_least {f : Addr} {fd : FuncData} (F : Fun K "least_of" "least_of" sLeast f fd) (T : Ty2 mg) (G : GLeast P w K mg base) : FnG P w K mg base CX0 2 f fd ["signs", "begin", "steps", "ends"] (spP K urnBox 4 leastF) := by
  refine fnP F scLeast fun cdv A outer s H E hr ts Pq hl hφ => ?_
  have S := @scLeast
  have hu65 : (A.deeper (PyProof.Rows.envOfC "least_of" (defScope sLeast) s.heap.objs.size f cdv)).units + 65 < cLine := by have := hr.un; omega
  have hu64 : (A.deeper (PyProof.Rows.envOfC "least_of" (defScope sLeast) s.heap.objs.size f cdv)).units + 64 < cLine := hr.units
  obtain ⟨sgl, b, st, en, n, k, rfl, hT, hn, hk, hb, hP⟩ := hφ
  refine ⟨_, (s_cons (s_set (i := 4) S.nd (q_cF G.parted (hr.mono (by decide)) (by rfl) (a_cons (q_var 2) (a_cons (q_var 3) a_nil))))
      (s_cons (s_parT rfl (ns_cons (i := 5) S.nd (ns_cons (i := 6) S.nd (ns_cons (i := 7) S.nd ns_nil))) (b_cons (q_lst (a_cons (q_ix (q_al 4) (q_var 1)) a_nil)) (b_cons (q_lst (a_cons (q_var 1) a_nil)) (b_cons (q_int) b_nil))))
      (s_cons (s_while PassesOwn.never (t_cmp o_lt op_lt (q_al 7) (q_callB c_len call_lenP (by rfl) T.len (by rfl) (a_cons (q_al 6) a_nil)) (nomark _)) (s_cons (s_for PassesOwn.never rfl (i_tup (q_ix (q_al 2) (q_ix (q_al 6) (q_var 7)))) (g_name (i := 8) S.nd) (s_one (s_if (t_cmp o_ni (op_niP hu65) (q_ix (q_al 4) (q_var 8)) (q_al 5) (by rfl)) (s_cons (s_expr (q_app 5 (q_ix (q_al 4) (q_var 8))))
      (s_one (s_expr (q_app 6 (q_var 8))))) s_nil)))
      (s_one (s_set (i := 7) S.nd (q_op o_add op_addP (q_al 7) (q_int))))))
      (s_cons (s_set (i := 9) S.nd (q_callTy c_tupOf call_tupP (by rfl) T.tuple (by rfl) (a_cons (q_lc (own := [("stand", 10)]) rfl S.nd (i_list (q_var 6)) (blkOk_by (by kernel_rfl)) (fun _ _ _ _ _ => (gv_name (i := 10) S.nd)) (fun _ _ _ _ _ => ts_nil) (fun _ _ _ _ _ => (q_callTy c_tupOf call_tupP (by rfl) T.tuple (by rfl) (a_cons (q_lc (own := [("goal", 8)]) rfl S.nd (i_tup (q_ix (q_al 2) (q_var 10))) (blkOk_by (by kernel_rfl)) (fun _ _ _ _ _ => (gv_name (i := 8) S.nd)) (fun _ _ _ _ _ => ts_nil) (fun _ _ _ _ _ => (q_index hu65 (q_al 5) (q_ix (q_al 4) (q_var 8))))) a_nil)))) a_nil)))
      (s_one (s_ret (q_tup (a_cons (q_var 0) (a_cons (q_int) (a_cons (q_var 9) (a_cons (q_callTy c_tupOf call_tupP (by rfl) T.tuple (by rfl) (a_cons (q_lc (own := [("place", 7), ("stand", 10)]) rfl S.nd (i_enumL (by rfl) T.enumerate (a_cons (q_var 6) a_nil)) (blkOk_by (by kernel_rfl)) (fun _ _ _ _ _ => (gv_tup (n := 2) rfl (gvs_cons (gv_name (i := 7) S.nd) (gvs_cons (gv_name (i := 10) S.nd) gvs_nil)))) (fun _ _ _ _ _ => ts_one (t_cmp o_in (op_inP hu65) (q_al 10) (q_al 3) (by rfl))) (fun _ _ _ _ _ => (q_var 7))) a_nil)) a_nil))))))))))), ?_⟩
  have hlen := hT.len
  have sz : ∀ {m : Nat}, m < 64 → m ≤ sizeLine := fun h => by rw [sizeLine_eq]; omega
  simp? only [PL.z1]
  refine ⟨st, en, n, k, rfl, hT, hn, hk, fun lots hL hx => ⟨trivial, ?_⟩⟩
  have hlo := hL.len
  have lget : ∀ s, s < n → (nats lots)[s]? = some (.int (lo lots s : Nat)) := fun s hs => nats_get (lo_lt (by omega))
  have rget : ∀ s r, st[s]? = some r → (rowsD st)[s]? = some (PyData.tuple (nats r)) := fun s r h => rows_get h
  simp? only [lget b hb]
  refine ⟨by decide, by decide, by decide, fun m ρ => ∃ (p : Nat) (t8 : PL.T), Live st lots b p ∧ t8.bare ∧ m = n - p ∧
    ρ = [.d (.str (sg sgl)), .d (.int (b : Nat)), .d (.tuple (rowsD st)), .d (.tuple (nats en)), .d (.list (nats lots)), .l (nats ((it st lots b p).map (lo lots))), .l (nats (it st lots b p)), .d (.int (p : Nat)), t8, .un, .un], ?_, ?_⟩
  · exact ⟨n, 0, .un, fun q hq => by omega, trivial, by omega, rfl⟩
  rintro m ρ ⟨p, t8, hLive, h8, rfl, rfl⟩
  have hsh := it_shown (lots := lots) hT hb p
  have hshl := shown_len hsh
  simp? only [nats_len]
  refine ite2 (fun e => ?_) (fun e => ?_)
  · have hp : p < (it st lots b p).length := by simpa using e
    have hpn : p < n := by omega
    obtain ⟨r, hr1, hr2, hr3⟩ := hT.row _ (hsh.lt _ (List.getElem_mem hp))
    have hpg : (nats (it st lots b p))[p]? = some (.int ((it st lots b p)[p] : Nat)) := nats_get (List.getElem?_eq_getElem hp)
    have hturn : it st lots b (p + 1) = r.foldl (add lots) (it st lots b p) := by
      show turn _ _ _ _ = _
      unfold turn
      simp [List.getD_eq_getElem?_getD, List.getElem?_eq_getElem hp, hr1]
    refine forT (nats r) [.d (.str (sg sgl)), .d (.int (b : Nat)), .d (.tuple (rowsD st)), .d (.tuple (nats en)), .d (.list (nats lots)), .l (nats ((it st lots b p).map (lo lots))), .l (nats (it st lots b p)), .d (.int (p : Nat)), t8, .un, .un]
      (fun j ρ => ∃ t8 : PL.T, t8.bare ∧ ρ = [.d (.str (sg sgl)), .d (.int (b : Nat)), .d (.tuple (rowsD st)), .d (.tuple (nats en)), .d (.list (nats lots)), .l (nats (((r.take j).foldl (add lots) (it st lots b p)).map (lo lots))), .l (nats ((r.take j).foldl (add lots) (it st lots b p))), .d (.int (p : Nat)), t8, .un, .un])
      (fun R hR => ?_) ⟨t8, h8, rfl⟩ (fun j d ρ hd ⟨t8', h8', hρ⟩ => ?_) (fun ρ ⟨t8', h8', hρ⟩ => ?_)
    · simp? only [hpg, rget _ _ hr1]
      exact hR
    · subst hρ
      obtain ⟨g, hg⟩ : ∃ g, r[j]? = some g := by
        have := (List.getElem?_eq_some_iff.mp hd).1
        rw [nats_len] at this
        exact ⟨_, List.getElem?_eq_getElem this⟩
      rw [nats_get hg] at hd
      cases hd
      have hgn := hr3 g (List.mem_of_getElem? hg)
      have e1 : r.take (j + 1) = r.take j ++ [g] := by rw [List.take_add_one, hg]; rfl
      have hsj := fold_shown (r.take j) hsh fun x hx => hr3 x (List.mem_of_mem_take hx)
      have hsjl := shown_len hsj
      have e2 : (r.take (j + 1)).foldl (add lots) (it st lots b p) = add lots ((r.take j).foldl (add lots) (it st lots b p)) g := by rw [e1, List.foldl_append]; rfl
      revert hsj hsjl e2
      generalize (r.take j).foldl (add lots) (it st lots b p) = sh
      generalize (r.take (j + 1)).foldl (add lots) (it st lots b p) = sh'
      intro hsj hsjl e2
      simp? only [lget g hgn, pIn, any_nats, Bool.true_xor]
      refine ⟨(lay_int (k := 0) _).shaped, (lay_list (k := 0) (lay_nats _)).shaped, ?_⟩
      unfold add at e2
      by_cases q : lo lots g ∈ sh.map (lo lots)
      · rw [if_pos q] at e2
        subst e2
        simp? only [q, decide_true, Bool.not_true]
        exact ⟨PL.T.d (.int (g : Nat)), trivial, rfl⟩
      · rw [if_neg q] at e2
        subst e2
        simp? only [q, decide_false, Bool.not_false, nats_len, lget g hgn]
        refine ⟨by rw [sizeLine_eq]; omega, by rw [sizeLine_eq]; omega, PL.T.d (.int (g : Nat)), trivial, ?_⟩
        simp [nats]
    · subst hρ
      rw [nats_len, List.take_length, ← hturn]
      simp? only [PL.z1]
      refine ⟨n - (p + 1), by omega, p + 1, t8', fun q hq => ?_, h8', rfl, rfl⟩
      by_cases z : q = p
      · subst z
        exact hp
      · exact hLive q (by omega)
  · have hp : (it st lots b p).length ≤ p := by
      have : ¬ p < (it st lots b p).length := by simpa using e
      omega
    have W := it_whole hT hb hLive hp
    have hP' := hP lots p hL hLive hp
    revert hsh hshl W hP'
    generalize it st lots b p = sh
    intro hsh hshl W hP'
    have hnn : n ≤ sizeLine := sz hn
    -- the items
    refine lc_mapT (nats sh) [.d (.str (sg sgl)), .d (.int (b : Nat)), .d (.tuple (rowsD st)), .d (.tuple (nats en)), .d (.list (nats lots)), .l (nats (sh.map (lo lots))), .d (.list (nats sh)), .d (.int (p : Nat)), t8, .un, .un]
      (rowsD (itemsOf st lots sh)) (fun R hR => ?_) (by simp [barePl, PL.T.bare]) (by simp [nats, rowsD, itemsOf]) (by rw [nats_len]; omega) (fun i d o hd ho R hR => ?_) ?_
    · simp? only [PL.z1]
      exact hR
    · obtain ⟨s, hs⟩ : ∃ s, sh[i]? = some s := by
        have := (List.getElem?_eq_some_iff.mp hd).1
        rw [nats_len] at this
        exact ⟨_, List.getElem?_eq_getElem this⟩
      rw [nats_get hs] at hd
      cases hd
      have hsm := List.mem_of_getElem? hs
      obtain ⟨r, hr1, hr2, hr3⟩ := hT.row s (hsh.lt s hsm)
      have e1 : (itemsOf st lots sh)[i]? = some (r.map fun g => (ixOf (lo lots g) (sh.map (lo lots))).getD 0) := by simp [itemsOf, hs, List.getD_eq_getElem?_getD, hr1]
      rw [rows_get e1] at ho
      cases ho
      simp? only [wipeP]
      refine lc_mapS (nats r) (nats (r.map fun g => (ixOf (lo lots g) (sh.map (lo lots))).getD 0)) (fun R' hR' => ?_) (barePl1 rfl h8) (by simp [nats]) (by rw [nats_len, hr2]; exact sz hk) (fun j d o hd ho R' hR' => ?_) ?_
      · simp? only [rget _ _ hr1]
        exact hR'
      · obtain ⟨g, hg⟩ : ∃ g, r[j]? = some g := by
          have := (List.getElem?_eq_some_iff.mp hd).1
          rw [nats_len] at this
          exact ⟨_, List.getElem?_eq_getElem this⟩
        rw [nats_get hg] at hd
        cases hd
        have hgm := List.mem_of_getElem? hg
        have hgn := hr3 g hgm
        obtain ⟨x, hx⟩ := ixOf_mem (W.cl s hsm g (by simpa [List.getD_eq_getElem?_getD, hr1] using hgm))
        obtain ⟨x1, x2⟩ := ixOf_at hx
        rw [nats_get (n := x) (by simp [hg, hx])] at ho
        cases ho
        simp? only [wipeP, lget g hgn]
        refine ⟨⟨_, rfl⟩, pIndex_of (j := x) ((lay_list (k := 0) (lay_nats _)).shaped) ((lay_int (k := 0) _).shaped) (nob_nats _) nob_int (nats_get x1) (fun m hm => nats_ne (x2 m hm)) (hR' _ _ rfl rfl)⟩
      · simp? only [PL.z1]
        refine hR _ _ rfl ?_
        simp [wipeP]
    · simp? only [PL.z1]
      refine lc_pickS (enumD (nats sh)) (fun i _ => if sh.getD i 0 ∈ en then some (.int (i : Nat)) else none) (fun R hR => ?_) (by simp [barePl, PL.T.bare]) (by rw [enumD_len, nats_len]; omega) (fun i d hd R R0 hR hR0 => ?_) ?_
      · simp? only [PL.z1]
        exact hR
      · obtain ⟨s, hs⟩ : ∃ s, sh[i]? = some s := by
          have := (List.getElem?_eq_some_iff.mp hd).1
          rw [enumD_len, nats_len] at this
          exact ⟨_, List.getElem?_eq_getElem this⟩
        rw [enumD_get (nats_get hs)] at hd
        cases hd
        have e : sh.getD i 0 = s := by simp [List.getD_eq_getElem?_getD, hs]
        simp? only [wipeP, pIn, any_nats, Bool.false_xor]
        refine ⟨(lay_int (k := 0) _).shaped, (lay_tup (k := 0) (lay_nats _)).shaped, ite2 (fun q => ?_) (fun q => ?_)⟩
        · exact hR _ _ _ (by rw [e, if_pos (of_decide_eq_true q)]) rfl rfl
        · exact hR0 _ (by rw [e, if_neg (fun z => q (decide_eq_true z))]) rfl
      · have e : pickD (fun i _ => if sh.getD i 0 ∈ en then some (PyData.int (i : Nat)) else none) (enumD (nats sh)) (enumD (nats sh)).length = nats (endsOf en sh) := by
          unfold pickD endsOf
          rw [pick_filter (α := Nat) (fun i => sh.getD i 0 ∈ en) _ _ (fun j hj => List.mem_range.mp hj), enumD_len, nats_len]
        rw [e]
        simp? only [PL.z1]
        exact ⟨by decide, hP'⟩
end
end C60

set_option Elab.async false
set_option linter.all false
set_option maxRecDepth 100000
namespace C60
open PySem L2 PL PM
def parts (m : M) : List T := [.d (.str (PL.sg m.sg)), .d (.int (m.b : Nat)), .d (.tuple (rowsD m.st)), .d (.tuple (nats m.en))]
def SgOk (l : List Nat) : Prop := ∀ c ∈ l, c < 0x110000
structure GL (P : Program) (w : World) (K : PySem.W.Frag) (mg : Str → Option Value) (base : Heap) : Prop where
  least_of : Cal P w K mg base urnBox 2 "least_of" ["signs", "begin", "steps", "ends"] 4 leastF
end C60

set_option Elab.async false
set_option linter.all false
set_option maxRecDepth 100000
namespace C60
open PySem L2 PL PM
abbrev sPick : Stmt := top 13
/-- one of a menu: a list, or the signs of a text -/
def pickF : List T → (T → Prop) → Prop := fun ts P => ∃ u, (∃ ds : List D, ts = [.bx u, .d (.list ds)] ∧ ds ≠ [] ∧ ds.length < 1000 ∧ ∀ d ∈ ds, P (.d d)) ∨ ∃ l : List Nat, ts = [.bx u, .d (.str (sg l))] ∧ l ≠ [] ∧ l.length < 1000 ∧ ∀ c ∈ l, P (.d (.str (sg [c])))
section
variable {P : Program} {w : World} {K : PySem.W.Frag} {mg : Str → Option Value} {base : Heap}
structure GTake (P : Program) (w : World) (K : PySem.W.Frag) (mg : Str → Option Value) (base : Heap) : Prop where
  _law_take : Cal P w K mg base urnBox 1 "_law_take" ["urn", "many"] 2 takeF
theorem scPick : FnScope ["urn", "menu"] ["urn", "menu"] (defScope sPick) := ⟨rfl, rfl, rfl, by decide +kernel, rfl, by decide +kernel, by decide +kernel⟩
theorem ok_pick {f : Addr} {fd : FuncData} (F : Fun K "_law_pick" "_law_pick" sPick f fd) (T : Ty2 mg) (G : GTake P w K mg base) : FnG P w K mg base CX0 2 f fd ["urn", "menu"] (spP K urnBox 2 pickF) := by
  refine fnP F scPick fun cdv A outer s H E hr ts Pq hl hφ => ?_
  have S := @scPick
  refine ⟨_, (s_one (s_ret (q_ix (q_al 1) (q_cU (i := 0) G._law_take (hr.mono (by decide)) (by rfl) (pv 0) (a_cons (q_callB c_len call_lenP (by rfl) T.len (by rfl) (a_cons (q_al 1) a_nil)) a_nil))))), ?_⟩
  obtain ⟨u, ⟨ds, rfl, hne, hl2, hP⟩ | ⟨l, rfl, hne, hl2, hP⟩⟩ := hφ
  · have hpos : 0 < ds.length := List.length_pos_iff.mpr hne
    simp? only [PL.z1]
    refine ⟨u, _, rfl, ⟨by omega, by omega⟩, fun r r0 r1 => ?_⟩
    obtain ⟨i, rfl⟩ : ∃ i : Nat, r = (i : Nat) := ⟨r.toNat, by omega⟩
    have hi : i < ds.length := by omega
    simp? only [List.getElem?_eq_getElem hi]
    exact hP _ (List.getElem_mem hi)
  · have hpos : 0 < l.length := List.length_pos_iff.mpr hne
    simp? only [sg_len]
    refine ⟨by rw [sizeLine_eq]; omega, u, _, rfl, ⟨by omega, by omega⟩, fun r r0 r1 => ?_⟩
    obtain ⟨i, rfl⟩ : ∃ i : Nat, r = (i : Nat) := ⟨r.toNat, by omega⟩
    have hi : i < l.length := by omega
    simp? only [sg_len, sg_tl, List.getElem?_eq_getElem hi]
    exact ⟨by rw [sizeLine_eq]; omega, hP _ (List.getElem_mem hi)⟩
theorem picks {g : QG} {te : QE} {vs : List Nat} {ρ0 : PL.Env} {Q : PL.T → PL.Env → Prop} {sgl : List Nat} (m : Nat) (hb : barePl ρ0 vs) (hm : m ≤ 1000) (step : ∀ (d : D) (R : PL.T → PL.Env → Prop), (∀ c ∈ sgl, ∀ ρ4, wipeP ρ4 vs = wipeP ρ0 vs → R (.d (.str (sg [c]))) ρ4) → g (.d d) (wipeP ρ0 vs) fun ρ2 => te ρ2 R)
    (fin : ∀ cs : List Nat, cs.length = m → (∀ c ∈ cs, c ∈ sgl) → Q (.l (cs.map fun c => PyData.str (sg [c]))) ρ0) : qLc (fun ρ R => R (rangeD 0 m) ρ) g qYes te vs ρ0 Q := by
  refine lc_inv (rangeD 0 m) ρ0 (fun i acc => ∃ cs : List Nat, cs.length = i ∧ acc = cs.map (fun c => PyData.str (sg [c])) ∧ ∀ c ∈ cs, c ∈ sgl) (fun R hR => hR) hb (by rw [rangeD_len, sizeLine_eq]; omega) ⟨[], rfl, rfl, fun c z => nomatch z⟩ (fun i acc ⟨cs, h1, h2, _⟩ => by rw [h2, List.length_map]; omega) (fun i d acc hd ⟨cs, h1, h2, h3⟩ R hR => ?_) fun acc ⟨cs, h1, h2, h3⟩ => ?_
  · refine step d R fun c hc ρ4 hw => hR _ _ _ rfl hw ⟨cs ++ [c], by simp [h1], by simp [h2], fun x hx => ?_⟩
    rcases List.mem_append.mp hx with z | z
    · exact h3 x z
    · obtain rfl := List.mem_singleton.mp z
      exact hc
  · subst h2
    rw [rangeD_len] at h1
    exact fin cs h1 h3
theorem joinD {Q : PL.T → Prop} (cs : List Nat) (hl : cs.length ≤ 10000) (q : Q (.d (.str (sg cs)))) : pJoin (.str (Str.ofString "")) (.list (cs.map fun c => PyData.str (sg [c]))) Q := by
  refine ⟨cs.map fun c => sg [c], by rw [List.map_map]; rfl, ?_, by rw [join_ones]; exact q⟩
  rw [sum_ones, List.length_map]
  show cs.length + cs.length * 0 ≤ 16777216
  omega
structure GPick (P : Program) (w : World) (K : PySem.W.Frag) (mg : Str → Option Value) (base : Heap) : Prop extends GTake P w K mg base where
  _law_pick : Cal P w K mg base urnBox 2 "_law_pick" ["urn", "menu"] 2 pickF
end
end C60

set_option Elab.async false
set_option linter.all false
set_option maxRecDepth 100000
namespace C60
open PySem L2 PL PM
abbrev sMach : Stmt := top 14
abbrev sTakes : Stmt := top 15
/-! ### drawn machines -/
structure Lett (l : List Nat) : Prop where
  ne : l ≠ []
  nd : l.Nodup
  len : l.length ≤ 5
  ok : SgOk l
structure MV (m : M) (n : Nat) : Prop where
  tab : Tab m.st n m.sg.length
  b : m.b < n
  en : ∀ e ∈ m.en, e < n
  enl : m.en.length ≤ n
  n8 : n ≤ 8
  sg : Lett m.sg
theorem MV.ok {m : M} {n : Nat} (h : MV m n) : MOk m n := ⟨h.tab, h.b⟩
theorem sm_nats {k : Nat} {l : List Nat} (h : ∀ n ∈ l, n ≤ 1000) : Sm (k + 1) l.length (.tuple (nats l)) :=
  sm_tup (n := 0) (fun d hd => by
    obtain ⟨n, hn, rfl⟩ := List.mem_map.mp hd
    exact sm_nat (by have := h n hn; omega)) (by rw [nats_len]; omega)
theorem sm_mach {m : M} {n : Nat} (h : MV m n) : Sm 3 200 m.d := by
  have hl := h.sg.len
  have h8 := h.n8
  have hb := h.b
  have he := h.enl
  refine sm_tup (k := 2) (n := 48) (all4 (sm_str (sg_ok h.sg.ok) (by rw [sg_len]; omega)) (sm_nat (by omega)) (sm_tup (k := 1) (n := 5) (fun d hd => ?_) ?_) ((sm_nats (k := 0) fun x hx => by have := h.en x hx; omega).mono (by decide) (by omega))) (by simp)
  · obtain ⟨r, hr, rfl⟩ := List.mem_map.mp hd
    obtain ⟨s, hs'⟩ := List.mem_iff_getElem?.mp hr
    have hsl : s < n := by have := (List.getElem?_eq_some_iff.mp hs').1; rw [h.tab.len] at this; exact this
    obtain ⟨r', e, h1, h2⟩ := h.tab.row s hsl
    rw [hs'] at e
    cases e
    exact (sm_nats fun x hx => by have := h2 x hx; omega).mono (Nat.le_refl _) (by omega)
  · rw [rows_len, h.tab.len]
    omega
/-! ### the least machine -/
/-- a machine of fewer stands than 64 -/
structure MB (m : M) (n : Nat) : Prop where
  tab : Tab m.st n m.sg.length
  b : m.b < n
  n64 : n < 64
  sg : Lett m.sg
theorem MV.mb {m : M} {n : Nat} (h : MV m n) : MB m n := ⟨h.tab, h.b, by have := h.n8; omega, h.sg⟩
theorem MB.ok {m : M} {n : Nat} (h : MB m n) : MOk m n := ⟨h.tab, h.b⟩
def Can (m c : M) : Prop := ∃ n lots p, MB m n ∧ Lots m.st m.en n m.sg.length lots ∧ Live m.st lots m.b p ∧ (it m.st lots m.b p).length ≤ p ∧ c = M.mk m.sg 0 (itemsOf m.st lots (it m.st lots m.b p)) (endsOf m.en (it m.st lots m.b p))
def mlang (m1 m2 : M) : Prop := m2.sg = m1.sg ∧ lang m1.st m1.en m1.b m2.st m2.en m2.b m1.sg.length
theorem mlang.refl {m : M} : mlang m m := ⟨rfl, lang.refl⟩
theorem mlang.symm {m1 m2 : M} (h : mlang m1 m2) : mlang m2 m1 := ⟨h.1.symm, by rw [h.1]; exact h.2.symm⟩
theorem mlang.trans {m1 m2 m3 : M} (h : mlang m1 m2) (g : mlang m2 m3) : mlang m1 m3 := ⟨g.1.trans h.1, h.2.trans (by have := g.2; rw [h.1] at this; exact this)⟩
theorem can_eq {m1 m2 c1 c2 : M} (h1 : Can m1 c1) (h2 : Can m2 c2) (h : mlang m1 m2) : c1 = c2 := by
  obtain ⟨n1, l1, p1, V1, O1, L1, e1, rfl⟩ := h1
  obtain ⟨n2, l2, p2, V2, O2, L2, e2, rfl⟩ := h2
  obtain ⟨hs, hl⟩ := h
  have T2 := V2.tab
  rw [hs] at O2 T2
  obtain ⟨a1, a2⟩ := Two.least ⟨V1.tab, T2, O1, O2⟩ ⟨V1.b, V2.b, hl⟩ L1 e1 L2 e2
  rw [a1, a2, hs]
theorem can_okB {m c : M} (h : Can m c) : ∃ n, MB c n ∧ n ≤ m.st.length ∧ (∀ x ∈ c.en, x < n) ∧ c.en.length ≤ n ∧ mlang m c ∧ ∀ a b, a < n → b < n → same c.st c.en c.sg.length a b → a = b := by
  obtain ⟨n, lots, p, V, O, L, e, rfl⟩ := h
  have W := it_whole V.tab V.b L e
  have hs := it_shown (lots := lots) V.tab V.b p
  have h0 := (List.getElem?_eq_some_iff.mp W.ok.hd).1
  have hl := shown_len hs
  refine ⟨_, ⟨items_tab V.tab W, h0, Nat.lt_of_le_of_lt hl V.n64, V.sg⟩, by rw [V.tab.len]; exact hl, fun x hx => (mem_ends.mp hx).1, ?_, ⟨rfl, fun w hw => (least_takes V.tab O W V.b hw).symm⟩, fun a b ha hb q => ?_⟩
  · have := List.length_filter_le (fun i => decide ((it m.st lots m.b p).getD i 0 ∈ m.en)) (List.range (it m.st lots m.b p).length)
    rw [List.length_range] at this
    exact this
  · have ea := List.getElem?_eq_getElem ha
    have eb := List.getElem?_eq_getElem hb
    have := (O.iff _ _ (hs.lt _ (List.getElem_mem ha)) (hs.lt _ (List.getElem_mem hb))).mpr fun w hw => by
      have S := Lots.stab V.tab O
      exact (stab_takes V.tab S W ea hw).symm.trans ((q w hw).trans (stab_takes V.tab S W eb hw))
    exact nodup_get hs.nd (by rw [List.getElem?_map, ea]; rfl) (by rw [List.getElem?_map, eb, Option.map_some, this])
theorem can_ok {m c : M} {n0 : Nat} (V : MV m n0) (h : Can m c) : ∃ n, MV c n ∧ mlang m c ∧ ∀ a b, a < n → b < n → same c.st c.en c.sg.length a b → a = b := by
  obtain ⟨n, B, h1, h2, h3, h4, h5⟩ := can_okB h
  rw [V.tab.len] at h1
  exact ⟨n, ⟨B.tab, B.b, h2, h3, Nat.le_trans h1 V.n8, B.sg⟩, h4, h5⟩
theorem least_of_mb {m : M} {n : Nat} {P : T → Prop} (h : MB m n) (q : ∀ c, Can m c → P (.d c.d)) : leastF (parts m) P := by
  have h8 := h.n64
  have hl := h.sg.len
  exact ⟨m.sg, m.b, m.st, m.en, n, m.sg.length, rfl, h.tab, by omega, by omega, h.b, fun lots p h1 h2 h3 => q _ ⟨n, lots, p, h, h1, h2, h3, rfl⟩⟩
theorem least_of_mv {m : M} {n : Nat} {P : T → Prop} (h : MV m n) (q : ∀ c, Can m c → P (.d c.d)) : leastF (parts m) P := least_of_mb h.mb q
def machF : List T → (T → Prop) → Prop := fun ts P => ∃ (u : Addr) (l : List Nat) (most : Nat), ts = [.bx u, .d (.str (sg l)), .d (.int (most : Nat))] ∧ Lett l ∧ (1 ≤ most ∧ most ≤ 8) ∧ ∀ m n, m.sg = l → MV m n → n ≤ most → P (.d m.d)
def takesF : List T → (T → Prop) → Prop := fun ts P => ∃ (m : M) (n : Nat) (row : List Nat), ts = [.d m.d, .d (.str (sg row))] ∧ MOk m n ∧ (∀ c ∈ row, c ∈ m.sg) ∧ P (.d (.bool (decide (rn m.st m.b (ixs m.sg row) ∈ m.en))))
section
variable {P : Program} {w : World} {K : PySem.W.Frag} {mg : Str → Option Value} {base : Heap}
theorem scMach : FnScope ["urn", "letters", "most", "many", "steps", "stand", "ends", "sign"] ["urn", "letters", "most"] (defScope sMach) := ⟨rfl, rfl, rfl, by decide +kernel, rfl, by decide +kernel, by decide +kernel⟩
theorem ok_mach {f : Addr} {fd : FuncData} (F : Fun K "_law_machine" "_law_machine" sMach f fd) (T : Ty2 mg) (G : GTake P w K mg base) : FnG P w K mg base CX0 2 f fd ["urn", "letters", "most"] (spP K urnBox 3 machF) := by
  refine fnP F scMach fun cdv A outer s H E hr ts Pq hl hφ => ?_
  have S := @scMach
  obtain ⟨u, l, most, rfl, hL, ⟨m1, m2⟩, hP⟩ := hφ
  refine ⟨_, (s_cons (s_parT rfl (ns_cons (i := 3) S.nd (ns_cons (i := 4) S.nd ns_nil)) (b_cons (q_op o_add op_addP (q_int) (q_cU (i := 0) G._law_take (hr.mono (by decide)) (by rfl) (pv 0) (a_cons (q_var 2) a_nil))) (b_cons (q_lst a_nil) b_nil)))
      (s_cons (s_for PassesOwn.never rfl (i_range1 (by rfl) T.range (a_cons (q_var 3) a_nil)) (g_name (i := 5) S.nd) (s_one (s_expr (q_app 4 (q_callTy c_tupOf call_tupP (by rfl) T.tuple (by rfl) (a_cons (q_lc (own := [("sign", 7)]) rfl S.nd (i_str (q_var 1)) (blkOk_by (by kernel_rfl)) (fun _ _ _ _ _ => (gv_name (i := 7) S.nd)) (fun _ _ _ _ _ => ts_nil) (fun _ _ _ _ _ => (q_cU (i := 0) G._law_take (hr.mono (by decide)) (by rfl) (pv 0) (a_cons (q_var 3) a_nil)))) a_nil))))))
      (s_cons (s_set (i := 6) S.nd (q_callTy c_tupOf call_tupP (by rfl) T.tuple (by rfl) (a_cons (q_lc (own := [("stand", 5)]) rfl S.nd (i_range1 (by rfl) T.range (a_cons (q_var 3) a_nil)) (blkOk_by (by kernel_rfl)) (fun _ _ _ _ _ => (gv_name (i := 5) S.nd)) (fun _ _ _ _ _ => ts_one (t_cmp o_lt op_lt (q_cU (i := 0) G._law_take (hr.mono (by decide)) (by rfl) (pv 0) (a_cons (q_int) a_nil)) (q_int) (nomark _))) (fun _ _ _ _ _ => (q_var 5))) a_nil)))
      (s_one (s_ret (q_tup (a_cons (q_var 1) (a_cons (q_cU (i := 0) G._law_take (hr.mono (by decide)) (by rfl) (pv 0) (a_cons (q_var 3) a_nil)) (a_cons (q_callTy c_tupOf call_tupP (by rfl) T.tuple (by rfl) (a_cons (q_al 4) a_nil)) (a_cons (q_var 6) a_nil)))))))))), ?_⟩
  have hll := hL.len
  simp? only [PL.z1]
  refine ⟨u, most, rfl, ⟨by omega, by omega⟩, fun r r0 r1 => ?_⟩
  obtain ⟨i, rfl⟩ := natOf r0
  have e1 : (1 : Int) + ((i : Nat) : Int) = ((i + 1 : Nat) : Int) := by omega
  simp? only [e1]
  refine ⟨szL (by decide), by decide, ?_⟩
  have hi : i + 1 ≤ most := by omega
  generalize i + 1 = many at *
  refine forT (rangeD 0 many) [.bx u, .d (.str (sg l)), .d (.int (most : Nat)), .d (.int (many : Nat)), .l [], .un, .un, .un]
    (fun j ρ => ∃ (st : List (List Nat)) (t5 : PL.T), st.length = j ∧ (∀ r ∈ st, r.length = l.length ∧ ∀ g ∈ r, g < many) ∧ t5.bare ∧ ρ = [.bx u, .d (.str (sg l)), .d (.int (most : Nat)), .d (.int (many : Nat)), .l (rowsD st), t5, .un, .un]) (fun R hR => ?_) ⟨[], .un, rfl, (fun r z => nomatch z), trivial, rfl⟩ (fun j d ρ hd ⟨st, t5, h1, h2, h5, hρ⟩ => ?_) (fun ρ ⟨st, t5, h1, h2, h5, hρ⟩ => ?_)
  · simp? only [PL.z1]
    refine ⟨⟨by omega, by omega⟩, ?_⟩
    simpa using hR
  · subst hρ
    have hj : j < many := by have := (List.getElem?_eq_some_iff.mp hd).1; rwa [rangeD_len] at this
    rw [nats_range hj] at hd
    cases hd
    simp? only [PL.z1]
    refine lc_nats (l.map fun c => .str (sg [c])) [.bx u, .d (.str (sg l)), .d (.int (most : Nat)), .d (.int (many : Nat)), .l (rowsD st), .d (.int (j : Nat)), .un, .un] (fun g => g < many) (fun R hR => ?_) (by simp [barePl, PL.T.bare]) (by rw [List.length_map]; exact szL (by omega)) (fun i d hd R hR => ?_) fun ns n1 n2 => ?_
    · simp? only [sg_signs]
      exact hR
    · simp? only [wipeP]
      obtain ⟨c, rfl⟩ : ∃ c, d = .str (sg [c]) := by
        obtain ⟨c, _, rfl⟩ := List.mem_map.mp (List.mem_of_getElem? hd)
        exact ⟨c, rfl⟩
      refine ⟨u, many, rfl, ⟨by omega, by omega⟩, fun r r0 r1 => ?_⟩
      obtain ⟨g, rfl⟩ := natOf r0
      exact hR g _ (by omega) rfl
    · simp? only [rows_len]
      refine ⟨szLt (by omega), st ++ [ns], .d (.int (j : Nat)), by simp [h1], fun r hr => ?_, trivial, by simp [rowsD]⟩
      rcases List.mem_append.mp hr with z | z
      · exact h2 r z
      · rw [List.mem_singleton] at z
        rw [z]
        exact ⟨by simpa using n1, n2⟩
  · subst hρ
    rw [rangeD_len] at h1
    simp? only [PL.z1]
    refine lc_sub many [.bx u, .d (.str (sg l)), .d (.int (most : Nat)), .d (.int (many : Nat)), .l (rowsD st), t5, .un, .un] (fun R hR => ?_) (barePl1 rfl h5) (by omega) (fun i hi R R0 hR hR0 => ?_) fun es e1 e2 e3 => ?_
    · simp? only [PL.z1]
      refine ⟨⟨by omega, by omega⟩, ?_⟩
      simpa using hR
    · simp? only [wipeP]
      refine ⟨u, 5, rfl, ⟨by decide, by decide⟩, fun r r0 r1 => ?_⟩
      refine ite2 (fun _ => ?_) (fun _ => ?_)
      · exact hR _ rfl
      · exact hR0 _ rfl
    · simp? only [PL.z1]
      refine ⟨u, many, rfl, ⟨by omega, by omega⟩, fun r r0 r1 => ?_⟩
      obtain ⟨b, rfl⟩ := natOf r0
      simp? only [PL.z1]
      refine ⟨szL (by decide), hP ⟨l, b, st, es⟩ many rfl ⟨⟨h1, fun s hs => ?_⟩, by show b < many; omega, e2, e1, by omega, hL⟩ hi⟩
      have hs' : s < st.length := by omega
      exact ⟨st[s], List.getElem?_eq_getElem hs', h2 _ (List.getElem_mem hs')⟩
theorem scTakes : FnScope ["machine", "row", "letters", "stand", "steps", "ends", "sign"] ["machine", "row"] (defScope sTakes) := ⟨rfl, rfl, rfl, by decide +kernel, rfl, by decide +kernel, by decide +kernel⟩
theorem ok_takes {f : Addr} {fd : FuncData} (F : Fun K "_law_takes" "_law_takes" sTakes f fd) : FnG P w K mg base CX0 1 f fd ["machine", "row"] (spP K urnBox 2 takesF) := by
  refine fnP F scTakes fun cdv A outer s H E hr ts Pq hl hφ => ?_
  have S := @scTakes
  have hu65 : (A.deeper (PyProof.Rows.envOfC "_law_takes" (defScope sTakes) s.heap.objs.size f cdv)).units + 65 < cLine := by have := hr.un; omega
  obtain ⟨m, n, row, rfl, O, hrow, hP⟩ := hφ
  refine ⟨_, (s_cons (s_asg (q_var 0) (g_tup (n := 4) rfl (gs_cons (g_name (i := 2) S.nd) (gs_cons (g_name (i := 3) S.nd) (gs_cons (g_name (i := 4) S.nd) (gs_cons (g_name (i := 5) S.nd) gs_nil))))))
      (s_cons (s_for PassesOwn.never rfl (i_str (q_var 1)) (g_name (i := 6) S.nd) (s_one (s_set (i := 3) S.nd (q_ix (q_ix (q_al 4) (q_var 3)) (q_sindex (q_var 2) (q_var 6))))))
      (s_one (s_ret (q_cmp o_in (op_inP hu65) (q_al 3) (q_al 5) (by rfl)))))), ?_⟩
  simp? only [M.d]
  refine forT (row.map fun c => .str (sg [c])) [.d m.d, .d (.str (sg row)), .d (.str (sg m.sg)), .d (.int (m.b : Nat)), .d (.tuple (rowsD m.st)), .d (.tuple (nats m.en)), .un]
    (fun i ρ => ∃ x, ρ = [.d m.d, .d (.str (sg row)), .d (.str (sg m.sg)), .d (.int (rn m.st m.b (ixs m.sg (row.take i)) : Nat)), .d (.tuple (rowsD m.st)), .d (.tuple (nats m.en)), x]) (fun R hR => ?_) ⟨.un, rfl⟩ (fun i d ρ hd ⟨x, hρ⟩ => ?_) (fun ρ ⟨x, hρ⟩ => ?_)
  · simp? only [sg_signs]
    exact hR
  · subst hρ
    rw [List.getElem?_map] at hd
    cases hc : row[i]? with
    | none => rw [hc] at hd; cases hd
    | some c =>
      rw [hc] at hd
      cases hd
      have hcs := hrow c (List.mem_of_getElem? hc)
      have hst := O.tab.rn O.b (w := ixs m.sg (row.take i)) (ixs_lt fun x hx => hrow x (List.mem_of_mem_take hx))
      obtain ⟨r, h1, h2, _⟩ := O.tab.row _ hst
      obtain ⟨j, h3⟩ := ixOf_mem hcs
      obtain ⟨h5, h6⟩ := ixOf_at h3
      obtain ⟨rest, h7⟩ := sg_index h5 h6
      have h8 : j < r.length := by have := (List.getElem?_eq_some_iff.mp h5).1; omega
      have h4 : r[j]? = some (nx m.st (rn m.st m.b (ixs m.sg (row.take i))) j) := by rw [← row_get h1 j]; simp [List.getD_eq_getElem?_getD, List.getElem?_eq_getElem h8]
      simp? only [rows_get h1]
      refine ⟨j, rest, h7, ?_⟩
      simp? only [nats_get h4]
      refine ⟨.d (.str (sg [c])), ?_⟩
      have e : row.take (i + 1) = row.take i ++ [c] := by rw [List.take_add_one, hc]; rfl
      simp only [e, ixs, List.map_append, rn_app, List.map_cons, List.map_nil, h3, Option.getD_some]
      rfl
  · subst hρ
    rw [List.length_map, List.take_length]
    simp? only [pIn]
    refine ⟨shInt _, shNats _, ?_⟩
    rw [any_nats, Bool.false_xor]
    exact hP
end
end C60

set_option Elab.async false
set_option linter.all false
set_option maxRecDepth 100000
namespace C60
open PySem L2 PL PM
abbrev sDressed : Stmt := top 17
def dressedF : List T → (T → Prop) → Prop := fun ts P => ∃ (u : Addr) (m : M) (n : Nat), ts = [.bx u, .d m.d] ∧ MV m n ∧ ∀ m' n', MV m' n' → mlang m m' → P (.d m'.d)
section
variable {P : Program} {w : World} {K : PySem.W.Frag} {mg : Str → Option Value} {base : Heap}
/-- the stands, maybe one twin more -/
structure Dr (m : M) (st2 : List (List Nat)) (en2 : List Nat) (n2 : Nat) : Prop where
  tab : Tab st2 n2 m.sg.length
  n8 : n2 ≤ 8
  b : m.b < n2
  en : ∀ e ∈ en2, e < n2
  enl : en2.length ≤ n2
  lg : lang m.st m.en m.b st2 en2 m.b m.sg.length
theorem dr_same {m : M} {n : Nat} (V : MV m n) : Dr m m.st m.en n := ⟨V.tab, V.n8, V.b, V.en, V.enl, lang.refl⟩
theorem dr_twin {m : M} {n tw : Nat} (V : MV m n) (h8 : n < 8) (htw : tw < n) {r : List Nat} (hr : m.st[tw]? = some r) {st2 : List (List Nat)} (hl : st2.length = n + 1)
    (h : ∀ s, s < n → ∃ r r2, m.st[s]? = some r ∧ st2[s]? = some r2 ∧ r2.length = r.length ∧ ∀ i, i < r.length → r2.getD i 0 = r.getD i 0 ∨ (r2.getD i 0 = n ∧ r.getD i 0 = tw)) (hn : st2[n]? = some r) :
    Dr m st2 (m.en ++ if tw ∈ m.en then [n] else []) (n + 1) := by
  have T := V.tab
  have T2 : Tab st2 (n + 1) m.sg.length := ⟨hl, fun s hs => by
    by_cases e : s = n
    · subst e
      obtain ⟨r', e', l', g'⟩ := T.row tw htw
      rw [hr] at e'
      cases e'
      exact ⟨r, hn, l', fun g hg => by have := g' g hg; omega⟩
    · obtain ⟨r0, r2, e1, e2, e3, e4⟩ := h s (by omega)
      obtain ⟨r', e', l', g'⟩ := T.row s (by omega)
      rw [e1] at e'
      cases e'
      refine ⟨r2, e2, by omega, fun g hg => ?_⟩
      obtain ⟨i, hi⟩ := List.mem_iff_getElem?.mp hg
      have hil := (List.getElem?_eq_some_iff.mp hi).1
      have hgi : r2.getD i 0 = g := by simp [List.getD_eq_getElem?_getD, hi]
      have hri : r0.getD i 0 < n := by
        rw [List.getD_eq_getElem?_getD, List.getElem?_eq_getElem (by omega)]
        exact g' _ (List.getElem_mem _)
      rcases e4 i (by omega) with z | ⟨z, _⟩ <;> omega⟩
  have hb := V.b
  have hen : ∀ e, e ∈ (m.en ++ if tw ∈ m.en then [n] else []) ↔ e ∈ m.en ∨ (e = n ∧ tw ∈ m.en) := fun e => by
    by_cases q : tw ∈ m.en <;> simp [q]
  refine ⟨T2, by omega, by omega, fun e he => ?_, ?_, lang_twin T T2 htw (fun s hs i hi => ?_) (fun i hi => ?_) (fun s hs => ?_) ?_ hb⟩
  · rcases (hen e).mp he with z | ⟨z, _⟩
    · have := V.en e z
      omega
    · omega
  · have := V.enl
    rw [List.length_append]
    split <;> simp <;> omega
  · obtain ⟨r0, r2, e1, e2, e3, e4⟩ := h s hs
    obtain ⟨r', e', l', _⟩ := T.row s hs
    rw [e1] at e'
    cases e'
    rw [← row_get e1 i, ← row_get e2 i]
    exact e4 i (by omega)
  · rw [← row_get hn i, ← row_get hr i]
  · rw [hen s]
    exact ⟨fun z => z.elim id fun z => by omega, .inl⟩
  · rw [hen n]
    exact ⟨fun z => z.elim (fun z => by have := V.en n z; omega) (·.2), fun z => .inr ⟨rfl, z⟩⟩
theorem scDressed : FnScope ["urn", "machine", "letters", "begin", "steps", "ends", "many", "twin", "at", "spot", "left", "order", "found", "stand", "ways", "other"] ["urn", "machine"] (defScope sDressed) := ⟨rfl, rfl, rfl, by decide +kernel, rfl, by decide +kernel, by decide +kernel⟩
set_option maxHeartbeats 1000000 in
theorem ok_dressed {f : Addr} {fd : FuncData} (F : Fun K "_law_dressed" "_law_dressed" sDressed f fd) (T : Ty2 mg) (G : GTake P w K mg base) : FnG P w K mg base CX0 2 f fd ["urn", "machine"] (spP K urnBox 2 dressedF) := by
  refine fnP F scDressed fun cdv A outer s H E hr ts Pq hl hφ => ?_
  have S := @scDressed
  have hu65 : (A.deeper (PyProof.Rows.envOfC "_law_dressed" (defScope sDressed) s.heap.objs.size f cdv)).units + 65 < cLine := by have := hr.un; omega
  have hu64 : (A.deeper (PyProof.Rows.envOfC "_law_dressed" (defScope sDressed) s.heap.objs.size f cdv)).units + 64 < cLine := hr.units
  obtain ⟨u, m, n, rfl, V, hP⟩ := hφ
  refine ⟨_, (s_cons (s_asg (q_var 1) (g_tup (n := 4) rfl (gs_cons (g_name (i := 2) S.nd) (gs_cons (g_name (i := 3) S.nd) (gs_cons (g_name (i := 4) S.nd) (gs_cons (g_name (i := 5) S.nd) gs_nil))))))
      (s_cons (s_par2 (i := 6) (j := 4) rfl S.nd (by decide) (b_cons (q_callB c_len call_lenP (by rfl) T.len (by rfl) (a_cons (q_al 4) a_nil)) (b_cons (q_callTy c_lstOf call_lstP (by rfl) T.list (by rfl) (a_cons (q_al 4) a_nil)) b_nil)) (by rfl))
      (s_cons (s_if ((w_and (t_cmp o_lt op_lt (q_al 6) (q_int) (nomark _)) (w_and1 (t_cmp o_eq (op_eqD hu64) (q_cU (i := 0) G._law_take (hr.mono (by decide)) (by rfl) (pv 0) (a_cons (q_int) a_nil)) (q_int) (nomark _)))).pt) (s_cons (s_set (i := 7) S.nd (q_cU (i := 0) G._law_take (hr.mono (by decide)) (by rfl) (pv 0) (a_cons (q_var 6) a_nil)))
      (s_cons (s_par2 (i := 8) (j := 9) rfl S.nd (by decide) (b_cons (q_cU (i := 0) G._law_take (hr.mono (by decide)) (by rfl) (pv 0) (a_cons (q_var 6) a_nil)) (b_cons (q_cU (i := 0) G._law_take (hr.mono (by decide)) (by rfl) (pv 0) (a_cons (q_callB c_len call_lenP (by rfl) T.len (by rfl) (a_cons (q_al 2) a_nil)) a_nil)) b_nil)) (by rfl))
      (s_cons (s_set (i := 4) S.nd (q_op o_add op_addP (q_lc (own := [("ways", 14)]) rfl S.nd (i_list (q_var 4)) (blkOk_by (by kernel_rfl)) (fun _ _ _ _ _ => (gv_name (i := 14) S.nd)) (fun _ _ _ _ _ => ts_nil) (fun _ _ _ _ _ => (q_callTy c_tupOf call_tupP (by rfl) T.tuple (by rfl) (a_cons (q_al 14) a_nil)))) (q_lst (a_cons (q_ix (q_al 4) (q_var 7)) a_nil))))
      (s_cons (s_if (t_cmp o_eq (op_eqD hu64) (q_ix (q_ix (q_al 4) (q_var 8)) (q_var 9)) (q_al 7) (nomark _)) (s_one (s_putL 4 (q_op o_add op_addP (q_op o_add op_addP (q_sl (q_ix (q_al 4) (q_var 8)) po_no (po_at (q_var 9))) (q_tup (a_cons (q_var 6) a_nil))) (q_sl (q_ix (q_al 4) (q_var 8)) (po_at (q_op o_add op_addP (q_al 9) (q_int))) po_no)) (q_var 8))) s_nil)
      (s_cons (s_set (i := 5) S.nd (q_op o_add op_addP (q_al 5) (q_if (t_cmp o_in (op_inP hu65) (q_al 7) (q_al 5) (by rfl)) (q_tup (a_cons (q_var 6) a_nil)) (q_tup a_nil))))
      (s_one (s_set (i := 6) S.nd (q_op o_add op_addP (q_al 6) (q_int))))))))) s_nil)
      (s_cons (s_parT rfl (ns_cons (i := 10) S.nd (ns_cons (i := 11) S.nd ns_nil)) (b_cons (q_listRg1 rfl (by rfl) T.list (by rfl) T.range (q_var 6)) (b_cons (q_lst a_nil) b_nil)))
      (s_cons (s_while PassesOwn.never (t_cmp o_ne (op_neD hu64) (q_al 10) (q_lst a_nil) (nomark _)) (s_one (s_expr (q_app 11 (q_popAt 10 (q_cU (i := 0) G._law_take (hr.mono (by decide)) (by rfl) (pv 0) (a_cons (q_callB c_len call_lenP (by rfl) T.len (by rfl) (a_cons (q_al 10) a_nil)) a_nil)))))))
      (s_cons (s_set (i := 12) S.nd (q_op o_mul op_mulP (q_lst (a_cons (q_tup a_nil) a_nil)) (q_al 6)))
      (s_cons (s_for PassesOwn.never rfl (i_enumL (by rfl) T.enumerate (a_cons (q_var 4) a_nil)) (g_tup (n := 2) rfl (gs_cons (g_name (i := 13) S.nd) (gs_cons (g_name (i := 14) S.nd) gs_nil))) (s_one (s_putL 12 (q_callTy c_tupOf call_tupP (by rfl) T.tuple (by rfl) (a_cons (q_lc (own := [("other", 15)]) rfl S.nd (i_tup (q_var 14)) (blkOk_by (by kernel_rfl)) (fun _ _ _ _ _ => (gv_name (i := 15) S.nd)) (fun _ _ _ _ _ => ts_nil) (fun _ _ _ _ _ => (q_ix (q_al 11) (q_var 15)))) a_nil)) (q_ix (q_al 11) (q_var 13)))))
      (s_one (s_ret (q_tup (a_cons (q_var 2) (a_cons (q_ix (q_al 11) (q_var 3)) (a_cons (q_callTy c_tupOf call_tupP (by rfl) T.tuple (by rfl) (a_cons (q_al 12) a_nil)) (a_cons (q_callTy c_tupOf call_tupP (by rfl) T.tuple (by rfl) (a_cons (q_callB c_sortedI cr_sortedI (by rfl) T.sorted (by rfl) (a_cons (q_lc (own := [("stand", 13)]) rfl S.nd (i_tup (q_var 5)) (blkOk_by (by kernel_rfl)) (fun _ _ _ _ _ => (gv_name (i := 13) S.nd)) (fun _ _ _ _ _ => ts_nil) (fun _ _ _ _ _ => (q_ix (q_al 11) (q_var 13)))) a_nil)) a_nil)) a_nil)))))))))))))), ?_⟩
  have hT := V.tab
  have hn8 := V.n8
  have hb := V.b
  have hk := V.sg.len
  have hk0 : 0 < m.sg.length := List.length_pos_iff.mpr V.sg.ne
  simp only [startP, endsP, List.length_cons, List.length_nil, Nat.zero_add, Nat.reduceAdd, Nat.reduceSub, List.reduceReplicate, List.cons_append, List.nil_append]
  refine seq_to (fun ρ => ρ = [.bx u, .d m.d, .d (.str (sg m.sg)), .d (.int (m.b : Nat)), .d (.tuple (rowsD m.st)), .d (.tuple (nats m.en)), .un, .un, .un, .un, .un, .un, .un, .un, .un, .un]) (fun DP hD => ?_) ?_
  · simp? only [M.d]
    exact hD _ rfl
  rintro ρ rfl
  refine seq_to (fun ρ => ρ = [.bx u, .d m.d, .d (.str (sg m.sg)), .d (.int (m.b : Nat)), .l (rowsD m.st), .d (.tuple (nats m.en)), .d (.int (n : Nat)), .un, .un, .un, .un, .un, .un, .un, .un, .un]) (fun DP hD => ?_) ?_
  · simp? only [rows_len, hT.len]
    exact ⟨by decide, hD _ rfl⟩
  rintro ρ rfl
  refine seq_to (fun ρ => ∃ st2 en2 n2 t7 t8 t9, Dr m st2 en2 n2 ∧ ρ = [.bx u, .d m.d, .d (.str (sg m.sg)), .d (.int (m.b : Nat)), .l (rowsD st2), .d (.tuple (nats en2)), .d (.int (n2 : Nat)), t7, t8, t9, .un, .un, .un, .un, .un, .un]) (fun DP hD => ?_) ?_
  · refine if_any [.bx u, .d m.d, .d (.str (sg m.sg)), .d (.int (m.b : Nat)), .l (rowsD m.st), .d (.tuple (nats m.en)), .d (.int (n : Nat)), .un, .un, .un, .un, .un, .un, .un, .un, .un] (fun b => b = true → n < 8) (fun R hR => ?_) (fun h8 => ?_) fun _ => ?_
    · simp? only [PL.z1]
      refine ite2 (fun q => ?_) (fun q => ?_)
      · exact ⟨u, 2, rfl, ⟨by decide, by decide⟩, fun r r0 r1 => ⟨shInt _, shInt _, hR _ fun _ => Int.ofNat_lt.mp (by simpa using q)⟩⟩
      · exact hR _ fun z => by cases z
    · have h8 := h8 rfl
      refine seq_to (fun ρ => ∃ tw : Nat, tw < n ∧ ρ = [.bx u, .d m.d, .d (.str (sg m.sg)), .d (.int (m.b : Nat)), .l (rowsD m.st), .d (.tuple (nats m.en)), .d (.int (n : Nat)), .d (.int (tw : Nat)), .un, .un, .un, .un, .un, .un, .un, .un]) (fun DP hD => ?_) ?_
      · simp? only [PL.z1]
        refine ⟨u, n, rfl, ⟨by omega, by omega⟩, fun r r0 r1 => ?_⟩
        obtain ⟨tw, rfl⟩ := natOf r0
        exact ⟨trivial, hD _ ⟨tw, by omega, rfl⟩⟩
      rintro ρ ⟨tw, htw, rfl⟩
      refine seq_to (fun ρ => ∃ at_ sp : Nat, at_ < n ∧ sp < m.sg.length ∧ ρ = [.bx u, .d m.d, .d (.str (sg m.sg)), .d (.int (m.b : Nat)), .l (rowsD m.st), .d (.tuple (nats m.en)), .d (.int (n : Nat)), .d (.int (tw : Nat)), .d (.int (at_ : Nat)), .d (.int (sp : Nat)), .un, .un, .un, .un, .un, .un]) (fun DP hD => ?_) ?_
      · simp? only [PL.z1]
        refine ⟨u, n, rfl, ⟨by omega, by omega⟩, fun r r0' r1' => ?_⟩
        obtain ⟨at_, rfl⟩ := natOf r0'
        simp? only [sg_len]
        refine ⟨szL (by omega), u, m.sg.length, rfl, ⟨by omega, by omega⟩, fun r r0'' r1'' => ?_⟩
        obtain ⟨sp, rfl⟩ := natOf r0''
        simp? only [PL.z1]
        exact ⟨by decide, hD _ ⟨at_, sp, by omega, by omega, rfl⟩⟩
      rintro ρ ⟨at_, sp, hat, hsp, rfl⟩
      obtain ⟨rt, ht1, ht2, ht3⟩ := hT.row tw htw
      obtain ⟨ra, ha1, ha2, ha3⟩ := hT.row at_ hat
      have hl1 : (m.st ++ [rt]).length = n + 1 := by simp [hT.len]
      have hat1 : (m.st ++ [rt])[at_]? = some ra := by rw [List.getElem?_append_left (by rw [hT.len]; exact hat)]; exact ha1
      have hap : rowsD m.st ++ [.tuple (nats rt)] = rowsD (m.st ++ [rt]) := by simp [rowsD]
      -- the rows once more, the twin's behind them
      refine seq_to (fun ρ => ρ = [.bx u, .d m.d, .d (.str (sg m.sg)), .d (.int (m.b : Nat)), .l (rowsD (m.st ++ [rt])), .d (.tuple (nats m.en)), .d (.int (n : Nat)), .d (.int (tw : Nat)), .d (.int (at_ : Nat)), .d (.int (sp : Nat)), .un, .un, .un, .un, .un, .un]) (fun DP hD => ?_) ?_
      · simp? only [PL.z1]
        refine lc_mapT (rowsD m.st) [.bx u, .d m.d, .d (.str (sg m.sg)), .d (.int (m.b : Nat)), .d (.list (rowsD m.st)), .d (.tuple (nats m.en)), .d (.int (n : Nat)), .d (.int (tw : Nat)), .d (.int (at_ : Nat)), .d (.int (sp : Nat)), .un, .un, .un, .un, .un, .un] (rowsD m.st) (fun R hR => ?_) (by simp [barePl, PL.T.bare]) rfl (by rw [rows_len, hT.len]; exact szL (by omega)) (fun i d o hd ho R hR => ?_) ?_
        · simp? only [PL.z1]
          exact hR
        · rw [hd] at ho
          cases ho
          obtain ⟨r, hr⟩ : ∃ r : List Nat, d = .tuple (nats r) := by
            obtain ⟨r, _, rfl⟩ := List.mem_map.mp (List.mem_of_getElem? hd)
            exact ⟨r, rfl⟩
          subst hr
          simp? only [wipeP]
          exact hR (.d (.tuple (nats r))) _ rfl rfl
        · simp? only [rows_get ht1, rows_len, hT.len, hap]
          exact ⟨by decide, szL (by omega), hD _ rfl⟩
      rintro ρ rfl
      -- one goal is the twin
      refine seq_to (fun ρ => ∃ st2 : List (List Nat), Dr m st2 (m.en ++ if tw ∈ m.en then [n] else []) (n + 1) ∧ ρ = [.bx u, .d m.d, .d (.str (sg m.sg)), .d (.int (m.b : Nat)), .l (rowsD st2), .d (.tuple (nats m.en)), .d (.int (n : Nat)), .d (.int (tw : Nat)), .d (.int (at_ : Nat)), .d (.int (sp : Nat)), .un, .un, .un, .un, .un, .un]) (fun DP hD => ?_) ?_
      · have hsp' : sp < ra.length := by omega
        have hg : (nats ra)[sp]? = some (.int (ra[sp] : Nat)) := nats_get (List.getElem?_eq_getElem hsp')
        refine if_any [.bx u, .d m.d, .d (.str (sg m.sg)), .d (.int (m.b : Nat)), .l (rowsD (m.st ++ [rt])), .d (.tuple (nats m.en)), .d (.int (n : Nat)), .d (.int (tw : Nat)), .d (.int (at_ : Nat)), .d (.int (sp : Nat)), .un, .un, .un, .un, .un, .un] (fun b => b = true → ra[sp] = tw) (fun R hR => ?_) (fun h => ?_) fun _ => ?_
        · simp? only [rows_get hat1, hg]
          refine ⟨shInt _, shInt _, hR _ fun z => ?_⟩
          simp [PyData.eqv] at z
          omega
        · have h := h rfl
          have e1 : ((sp : Nat) : Int) + 1 = ((sp + 1 : Nat) : Int) := by omega
          have ec : nats (ra.take sp) ++ [.int ((n : Nat) : Int)] ++ nats (ra.drop (sp + 1)) = nats (ra.set sp n) := by
            rw [nats_one, nats_app, nats_app, set_cut ra sp n hsp']
          have hix : ixN (n + 1) ((at_ : Nat) : Int) = some at_ := by
            unfold ixN
            rw [if_pos (by omega), if_pos (by omega)]
            rfl
          have es : (rowsD (m.st ++ [rt])).set at_ (.tuple (nats (ra.set sp n))) = rowsD ((m.st ++ [rt]).set at_ (ra.set sp n)) := by
            unfold rowsD
            rw [List.map_set]
          simp? only [rows_get hat1, e1, cutD_to, nats_take, cutD_from (nats ra) (k := sp + 1) (by rw [nats_len]; omega), nats_drop, ec, rows_len, hl1, nats_len]
          refine ⟨by decide, szL (by rw [List.length_take]; omega), szL (by rw [List.length_append, nats_len, List.length_take, List.length_drop]; simp; omega), at_, hix, ?_⟩
          rw [es]
          refine hD _ ⟨_, dr_twin V h8 htw ht1 (by simp [hT.len]) (fun s hs => ?_) ?_, rfl⟩
          · obtain ⟨r, e, l, _⟩ := hT.row s hs
            by_cases z : s = at_
            · subst z
              rw [ha1] at e
              cases e
              refine ⟨ra, ra.set sp n, ha1, by rw [List.getElem?_set_self (by omega)], by simp, fun i hi => ?_⟩
              by_cases y : i = sp
              · subst y
                right
                simp [List.getD_eq_getElem?_getD, hi, h]
              · left
                simp [List.getD_eq_getElem?_getD, List.getElem?_set_ne (Ne.symm y)]
            · exact ⟨r, r, e, by rw [List.getElem?_set_ne (Ne.symm z), List.getElem?_append_left (by rw [hT.len]; exact hs)]; exact e, rfl, fun i _ => .inl rfl⟩
          · rw [List.getElem?_set_ne (by omega), List.getElem?_append_right (by rw [hT.len]; omega), hT.len]
            simp
        · refine hD _ ⟨_, dr_twin V h8 htw ht1 hl1 (fun s hs => ?_) (by rw [List.getElem?_append_right (by rw [hT.len]; omega), hT.len]; simp), rfl⟩
          obtain ⟨r, e, l, _⟩ := hT.row s hs
          exact ⟨r, r, e, by rw [List.getElem?_append_left (by rw [hT.len]; exact hs)]; exact e, rfl, fun i _ => .inl rfl⟩
      rintro ρ ⟨st2, hdr, rfl⟩
      -- the ends
      refine seq_to (fun ρ => ρ = [.bx u, .d m.d, .d (.str (sg m.sg)), .d (.int (m.b : Nat)), .l (rowsD st2), .d (.tuple (nats (m.en ++ if tw ∈ m.en then [n] else []))), .d (.int (n : Nat)), .d (.int (tw : Nat)), .d (.int (at_ : Nat)), .d (.int (sp : Nat)), .un, .un, .un, .un, .un, .un]) (fun DP hD => ?_) ?_
      · have hel := V.enl
        simp? only [pIn, any_nats, Bool.false_xor, nats_len]
        refine ⟨shInt _, shNats _, ite2 (fun q => ?_) (fun q => ?_)⟩
        · refine ⟨by decide, szL (by omega), hD _ ?_⟩
          rw [if_pos (of_decide_eq_true q), nats_one, nats_app]
        · refine ⟨by decide, szL (by omega), hD _ ?_⟩
          rw [if_neg (fun z => q (decide_eq_true z)), List.append_nil]
      rintro ρ rfl
      have e1 : ((n : Nat) : Int) + 1 = ((n + 1 : Nat) : Int) := by omega
      simp? only [e1]
      exact hD _ ⟨st2, _, n + 1, _, _, _, hdr, rfl⟩
    · exact hD _ ⟨_, _, _, _, _, _, dr_same V, rfl⟩
  rintro ρ ⟨st2, en2, n2, t7, t8, t9, hdr, rfl⟩
  have hT2 := hdr.tab
  have hn2 := hdr.n8
  have hb2 := hdr.b
  have hel := hdr.enl
  -- left, order
  refine seq_to (fun ρ => ρ = [.bx u, .d m.d, .d (.str (sg m.sg)), .d (.int (m.b : Nat)), .l (rowsD st2), .d (.tuple (nats en2)), .d (.int (n2 : Nat)), t7, t8, t9, .l (nats (List.range n2)), .l [], .un, .un, .un, .un]) (fun DP hD => ?_) ?_
  · have er : rangeD 0 n2 = nats (List.range n2) := by simp [rangeD, nats]
    simp? only [Int.toNat_natCast, er]
    exact ⟨⟨by omega, by omega⟩, by decide, by decide, hD _ rfl⟩
  rintro ρ rfl
  refine seq_to (fun ρ => ∃ od : List Nat, Names od n2 ∧ ρ = [.bx u, .d m.d, .d (.str (sg m.sg)), .d (.int (m.b : Nat)), .l (rowsD st2), .d (.tuple (nats en2)), .d (.int (n2 : Nat)), t7, t8, t9, .l [], .l (nats od), .un, .un, .un, .un]) (fun DP hD => ?_) ?_
  · refine ⟨fun q ρ => ∃ lf od : List Nat, q = lf.length ∧ (od ++ lf).Nodup ∧ (∀ x, x ∈ od ++ lf ↔ x < n2) ∧ ρ = [.bx u, .d m.d, .d (.str (sg m.sg)), .d (.int (m.b : Nat)), .l (rowsD st2), .d (.tuple (nats en2)), .d (.int (n2 : Nat)), t7, t8, t9, .l (nats lf), .l (nats od), .un, .un, .un, .un], ⟨_, List.range n2, [], rfl, by simpa using List.nodup_range, fun x => by simp, rfl⟩, ?_⟩
    rintro q ρ ⟨lf, od, rfl, nd, hm, rfl⟩
    have hlen : od.length + lf.length ≤ n2 := by
      have := sub_len (b := List.range n2) nd fun x hx => List.mem_range.mpr ((hm x).mp hx)
      simpa using this
    simp? only [eqv_nil]
    refine ⟨by decide, shNatsL _, rfl, ite2 (fun q => ?_) (fun q => ?_)⟩
    · have hne : lf ≠ [] := by simpa using q
      have hpos : 0 < lf.length := List.length_pos_iff.mpr hne
      simp? only [nats_len]
      refine ⟨u, lf.length, rfl, ⟨by omega, by omega⟩, fun r r0 r1 => ?_⟩
      obtain ⟨i, rfl⟩ := natOf r0
      have hi : i < lf.length := by omega
      have hsi := seqIx hi
      have ee := nats_erase lf i
      have ea : nats od ++ [.int ((lf[i] : Nat) : Int)] = nats (od ++ [lf[i]]) := by simp [nats]
      simp? only [nats_len, ee]
      refine ⟨⟨by omega, by omega⟩, i, .int (lf[i] : Nat), hsi, nats_get (List.getElem?_eq_getElem hi), ?_⟩
      simp? only [nats_len, ea]
      have hp : ((od ++ [lf[i]]) ++ lf.eraseIdx i).Perm (od ++ lf) := by
        rw [List.append_assoc]
        exact (erase_perm hi).append_left od
      exact ⟨szLt (by omega), (lf.eraseIdx i).length, by rw [List.length_eraseIdx]; simp [hi]; omega, lf.eraseIdx i, od ++ [lf[i]], rfl, hp.nodup_iff.mpr nd, fun x => (hp.mem_iff).trans (hm x), by rw [ee]⟩
    · have hne : lf = [] := by simpa using q
      subst hne
      rw [List.append_nil] at nd hm
      exact hD _ ⟨od, ⟨nd, hm⟩, rfl⟩
  rintro ρ ⟨od, N, rfl⟩
  have hol := N.len
  have oget : ∀ s, s < n2 → (nats od)[s]? = some (.int ((od.getD s 0 : Nat) : Int)) := fun s hs => nats_get (by simp [List.getD_eq_getElem?_getD, List.getElem?_eq_getElem (show s < od.length by omega)])
  -- found
  refine seq_to (fun ρ => ρ = [.bx u, .d m.d, .d (.str (sg m.sg)), .d (.int (m.b : Nat)), .l (rowsD st2), .d (.tuple (nats en2)), .d (.int (n2 : Nat)), t7, t8, t9, .l [], .l (nats od), .l (List.replicate n2 (.tuple [])), .un, .un, .un]) (fun DP hD => ?_) ?_
  · have er : (List.replicate n2 [PyData.tuple []]).flatten = List.replicate n2 (.tuple []) := by
      generalize n2 = k
      induction k with
      | zero => rfl
      | succ k ih => rw [List.replicate_succ, List.flatten_cons, ih, List.replicate_succ]; rfl
    simp? only [Int.toNat_natCast, er]
    exact ⟨by decide, by decide, ⟨by omega, by omega, szL (by omega)⟩, hD _ rfl⟩
  rintro ρ rfl
  refine seq_to (fun ρ => ∃ t13 t14, t13.bare ∧ ρ = [.bx u, .d m.d, .d (.str (sg m.sg)), .d (.int (m.b : Nat)), .d (.list (rowsD st2)), .d (.tuple (nats en2)), .d (.int (n2 : Nat)), t7, t8, t9, .l [], .l (nats od), .l (rowsD (renamed st2 od n2)), t13, t14, .un]) (fun DP hD => ?_) ?_
  · refine forT (enumD (rowsD st2)) [.bx u, .d m.d, .d (.str (sg m.sg)), .d (.int (m.b : Nat)), .d (.list (rowsD st2)), .d (.tuple (nats en2)), .d (.int (n2 : Nat)), t7, t8, t9, .l [], .l (nats od), .l (List.replicate n2 (.tuple [])), .un, .un, .un]
      (fun j ρ => ∃ (fd : List D) (t13 t14 : PL.T), t13.bare ∧ fd.length = n2 ∧ (∀ s, s < j → s < n2 → fd[od.getD s 0]? = some (.tuple (nats ((st2.getD s []).map fun g => od.getD g 0)))) ∧ ρ = [.bx u, .d m.d, .d (.str (sg m.sg)), .d (.int (m.b : Nat)), .d (.list (rowsD st2)), .d (.tuple (nats en2)), .d (.int (n2 : Nat)), t7, t8, t9, .l [], .l (nats od), .l fd, t13, t14, .un])
      (fun R hR => ?_) ⟨_, .un, .un, trivial, by simp, (fun s z => by omega), rfl⟩ (fun j d ρ hd ⟨fd, t13, t14, ht13, h1, h2, hρ⟩ => ?_) (fun ρ ⟨fd, t13, t14, ht13, h1, h2, hρ⟩ => ?_)
    · simp? only [PL.z1]
      exact hR
    · subst hρ
      have hj : j < n2 := by have := (List.getElem?_eq_some_iff.mp hd).1; rwa [enumD_len, rows_len, hT2.len] at this
      obtain ⟨r, hr1, hr2, hr3⟩ := hT2.row j hj
      rw [enumD_get (rows_get hr1)] at hd
      cases hd
      simp? only [PL.z1]
      refine lc_mapT (nats r) [.bx u, .d m.d, .d (.str (sg m.sg)), .d (.int (m.b : Nat)), .d (.list (rowsD st2)), .d (.tuple (nats en2)), .d (.int (n2 : Nat)), t7, t8, t9, .l [], .l (nats od), .l fd, .d (.int (j : Nat)), .d (.tuple (nats r)), .un] (nats (r.map fun g => od.getD g 0)) (fun R hR => ?_) (by simp [barePl, PL.T.bare]) (by simp [nats]) (by rw [nats_len, hr2]; exact szL (by omega)) (fun i d o hd ho R hR => ?_) ?_
      · simp? only [PL.z1]
        exact hR
      · obtain ⟨g, hg⟩ : ∃ g, r[i]? = some g := by
          have := (List.getElem?_eq_some_iff.mp hd).1
          rw [nats_len] at this
          exact ⟨_, List.getElem?_eq_getElem this⟩
        rw [nats_get hg] at hd
        cases hd
        rw [nats_get (n := od.getD g 0) (by simp [hg])] at ho
        cases ho
        simp? only [wipeP, oget g (hr3 g (List.mem_of_getElem? hg))]
        exact hR (.d (.int ((od.getD g 0 : Nat) : Int))) _ rfl rfl
      · have hoj := N.lt hj
        have hix : ixN fd.length ((od.getD j 0 : Nat) : Int) = some (od.getD j 0) := by
          unfold ixN
          rw [if_pos (by omega), if_pos (by omega)]
          rfl
        simp? only [oget j hj]
        refine ⟨_, hix, _, .d (.int (j : Nat)), .d (.tuple (nats r)), trivial, by rw [List.length_set]; exact h1, fun s hs hsn => ?_, rfl⟩
        by_cases z : s = j
        · subst z
          rw [List.getElem?_set_self (by omega)]
          simp [List.getD_eq_getElem?_getD, hr1]
        · have hne : od.getD j 0 ≠ od.getD s 0 := fun e => z (by rw [← N.back hsn, ← e, N.back hj])
          rw [List.getElem?_set_ne hne]
          exact h2 s (by omega) hsn
    · subst hρ
      rw [enumD_len, rows_len, hT2.len] at h2
      refine hD _ ⟨t13, t14, ht13, ?_⟩
      have e : fd = rowsD (renamed st2 od n2) := by
        refine List.ext_getElem? fun x => ?_
        by_cases hx : x < n2
        · obtain ⟨y1, y2⟩ := N.ix hx
          have := h2 _ y1 y1
          rw [y2] at this
          rw [this]
          simp [rowsD, renamed, hx]
        · rw [List.getElem?_eq_none (by omega), List.getElem?_eq_none (by rw [rows_len, renamed]; simp; omega)]
      rw [e]
  rintro ρ ⟨t13, t14, ht13, rfl⟩
  simp? only [oget m.b hb2]
  refine lc_mapT (nats en2) [.bx u, .d m.d, .d (.str (sg m.sg)), .d (.int (m.b : Nat)), .d (.list (rowsD st2)), .d (.tuple (nats en2)), .d (.int (n2 : Nat)), t7, t8, t9, .l [], .l (nats od), .l (rowsD (renamed st2 od n2)), t13, t14, .un] (nats (en2.map fun e => od.getD e 0)) (fun R hR => ?_) (barePl1 rfl ht13) (by simp [nats]) (by rw [nats_len]; exact szL (by omega)) (fun i d o hd ho R hR => ?_) ?_
  · simp? only [PL.z1]
    exact hR
  · obtain ⟨g, hg⟩ : ∃ g, en2[i]? = some g := by
      have := (List.getElem?_eq_some_iff.mp hd).1
      rw [nats_len] at this
      exact ⟨_, List.getElem?_eq_getElem this⟩
    rw [nats_get hg] at hd
    cases hd
    rw [nats_get (n := od.getD g 0) (by simp [hg])] at ho
    cases ho
    simp? only [wipeP, oget g (hdr.en g (List.mem_of_getElem? hg))]
    exact hR (.d (.int ((od.getD g 0 : Nat) : Int))) _ rfl rfl
  · simp? only [PL.z1]
    refine pSortedI_nat _ fun en3 hp hw => ?_
    simp? only [PL.z1]
    have hmem : ∀ s, s < n2 → (od.getD s 0 ∈ en3 ↔ s ∈ en2) := fun s hs => by
      rw [hp.mem_iff, List.mem_map]
      constructor
      · rintro ⟨e, he, q⟩
        rw [← N.back hs, ← q, N.back (hdr.en e he)]
        exact he
      · intro h
        exact ⟨s, h, rfl⟩
    refine ⟨by decide, ?_⟩
    have hen3 : ∀ e ∈ en3, e < n2 := fun e he => by
      obtain ⟨x, hx, rfl⟩ := List.mem_map.mp (hp.mem_iff.mp he)
      exact N.lt (hdr.en x hx)
    exact hP ⟨m.sg, od.getD m.b 0, renamed st2 od n2, en3⟩ n2 ⟨renamed_tab hT2 N, N.lt hb2, hen3, by have := hp.length_eq; rw [List.length_map] at this; show en3.length ≤ n2; omega, hn2, V.sg⟩ ⟨rfl, hdr.lg.trans (lang_renamed hT2 N hmem hb2)⟩
end
end C60

set_option Elab.async false
set_option linter.all false
set_option maxRecDepth 100000
namespace C60
open PySem L2 PL PM
abbrev sNearly : Stmt := top 18
def nearlyF : List T → (T → Prop) → Prop := fun ts P => ∃ (u : Addr) (m : M) (n : Nat), ts = [.bx u, .d m.d] ∧ MV m n ∧ ∀ m', m'.sg = m.sg → MV m' n → P (.d m'.d)
section
variable {P : Program} {w : World} {K : PySem.W.Frag} {mg : Str → Option Value} {base : Heap}
theorem scNearly : FnScope ["urn", "machine", "letters", "begin", "steps", "ends", "many", "way", "stand", "other", "spot", "ways", "own"] ["urn", "machine"] (defScope sNearly) := ⟨rfl, rfl, rfl, by decide +kernel, rfl, by decide +kernel, by decide +kernel⟩
set_option maxHeartbeats 1000000 in
theorem ok_nearly {f : Addr} {fd : FuncData} (F : Fun K "_law_nearly" "_law_nearly" sNearly f fd) (T : Ty2 mg) (G : GTake P w K mg base) : FnG P w K mg base CX0 2 f fd ["urn", "machine"] (spP K urnBox 2 nearlyF) := by
  refine fnP F scNearly fun cdv A outer s H E hr ts Pq hl hφ => ?_
  have S := @scNearly
  have hu65 : (A.deeper (PyProof.Rows.envOfC "_law_nearly" (defScope sNearly) s.heap.objs.size f cdv)).units + 65 < cLine := by have := hr.un; omega
  have hu64 : (A.deeper (PyProof.Rows.envOfC "_law_nearly" (defScope sNearly) s.heap.objs.size f cdv)).units + 64 < cLine := hr.units
  obtain ⟨u, m, n, rfl, V, hP⟩ := hφ
  refine ⟨_, (s_cons (s_asg (q_var 1) (g_tup (n := 4) rfl (gs_cons (g_name (i := 2) S.nd) (gs_cons (g_name (i := 3) S.nd) (gs_cons (g_name (i := 4) S.nd) (gs_cons (g_name (i := 5) S.nd) gs_nil))))))
      (s_cons (s_par2 (i := 6) (j := 7) rfl S.nd (by decide) (b_cons (q_callB c_len call_lenP (by rfl) T.len (by rfl) (a_cons (q_al 4) a_nil)) (b_cons (q_cU (i := 0) G._law_take (hr.mono (by decide)) (by rfl) (pv 0) (a_cons (q_int) a_nil)) b_nil)) (by rfl))
      (s_cons (s_parT rfl (ns_cons (i := 8) S.nd (ns_cons (i := 9) S.nd (ns_cons (i := 10) S.nd ns_nil))) (b_cons (q_cU (i := 0) G._law_take (hr.mono (by decide)) (by rfl) (pv 0) (a_cons (q_var 6) a_nil)) (b_cons (q_cU (i := 0) G._law_take (hr.mono (by decide)) (by rfl) (pv 0) (a_cons (q_var 6) a_nil)) (b_cons (q_cU (i := 0) G._law_take (hr.mono (by decide)) (by rfl) (pv 0) (a_cons (q_callB c_len call_lenP (by rfl) T.len (by rfl) (a_cons (q_al 2) a_nil)) a_nil)) b_nil))))
      (s_cons (s_if (t_cmp o_eq (op_eqD hu64) (q_al 7) (q_int) (nomark _)) (s_one (s_ret (q_tup (a_cons (q_var 2) (a_cons (q_var 8) (a_cons (q_var 4) (a_cons (q_var 5) a_nil))))))) s_nil)
      (s_cons (s_if (t_cmp o_eq (op_eqD hu64) (q_al 7) (q_int) (nomark _)) (s_one (s_ret (q_tup (a_cons (q_var 2) (a_cons (q_var 3) (a_cons (q_var 4) (a_cons (q_callTy c_tupOf call_tupP (by rfl) T.tuple (by rfl) (a_cons (q_lc (own := [("own", 12)]) rfl S.nd (i_range1 (by rfl) T.range (a_cons (q_var 6) a_nil)) (blkOk_by (by kernel_rfl)) (fun _ _ _ _ _ => (gv_name (i := 12) S.nd)) (fun _ _ _ _ _ => ts_one (t_cmp o_ne (op_neD hu64) (q_cmp o_in (op_inP hu65) (q_al 12) (q_al 5) (by rfl)) (q_cmp o_eq (op_eqD hu64) (q_al 12) (q_al 8) (nomark _)) (nomark _))) (fun _ _ _ _ _ => (q_var 12))) a_nil)) a_nil))))))) s_nil)
      (s_cons (s_set (i := 11) S.nd (q_op o_add op_addP (q_op o_add op_addP (q_sl (q_ix (q_al 4) (q_var 8)) po_no (po_at (q_var 10))) (q_tup (a_cons (q_var 9) a_nil))) (q_sl (q_ix (q_al 4) (q_var 8)) (po_at (q_op o_add op_addP (q_al 10) (q_int))) po_no)))
      (s_one (s_ret (q_tup (a_cons (q_var 2) (a_cons (q_var 3) (a_cons (q_op o_add op_addP (q_op o_add op_addP (q_sl (q_al 4) po_no (po_at (q_var 8))) (q_tup (a_cons (q_var 11) a_nil))) (q_sl (q_al 4) (po_at (q_op o_add op_addP (q_al 8) (q_int))) po_no)) (a_cons (q_var 5) a_nil))))))))))))), ?_⟩
  have hT := V.tab
  have hn8 := V.n8
  have hb := V.b
  have hk := V.sg.len
  have hk0 : 0 < m.sg.length := List.length_pos_iff.mpr V.sg.ne
  simp only [startP, endsP, List.length_cons, List.length_nil, Nat.zero_add, Nat.reduceAdd, Nat.reduceSub, List.reduceReplicate, List.cons_append, List.nil_append]
  refine seq_to (fun ρ => ρ = [.bx u, .d m.d, .d (.str (sg m.sg)), .d (.int (m.b : Nat)), .d (.tuple (rowsD m.st)), .d (.tuple (nats m.en)), .un, .un, .un, .un, .un, .un, .un]) (fun DP hD => ?_) ?_
  · simp? only [M.d]
    exact hD _ rfl
  rintro ρ rfl
  refine seq_to (fun ρ => ∃ way : Int, ρ = [.bx u, .d m.d, .d (.str (sg m.sg)), .d (.int (m.b : Nat)), .d (.tuple (rowsD m.st)), .d (.tuple (nats m.en)), .d (.int (n : Nat)), .d (.int way), .un, .un, .un, .un, .un]) (fun DP hD => ?_) ?_
  · simp? only [rows_len, hT.len]
    exact ⟨u, 4, rfl, ⟨by decide, by decide⟩, fun r r0 r1 => ⟨by decide, hD _ ⟨r, rfl⟩⟩⟩
  rintro ρ ⟨way, rfl⟩
  refine seq_to (fun ρ => ∃ st_ ot sp : Nat, st_ < n ∧ ot < n ∧ sp < m.sg.length ∧ ρ = [.bx u, .d m.d, .d (.str (sg m.sg)), .d (.int (m.b : Nat)), .d (.tuple (rowsD m.st)), .d (.tuple (nats m.en)), .d (.int (n : Nat)), .d (.int way), .d (.int (st_ : Nat)), .d (.int (ot : Nat)), .d (.int (sp : Nat)), .un, .un]) (fun DP hD => ?_) ?_
  · simp? only [PL.z1]
    refine ⟨u, n, rfl, ⟨by omega, by omega⟩, fun r r0 r1 => ?_⟩
    obtain ⟨st_, rfl⟩ := natOf r0
    simp? only [PL.z1]
    refine ⟨u, n, rfl, ⟨by omega, by omega⟩, fun r r0' r1' => ?_⟩
    obtain ⟨ot, rfl⟩ := natOf r0'
    simp? only [sg_len]
    refine ⟨szL (by omega), u, m.sg.length, rfl, ⟨by omega, by omega⟩, fun r r0'' r1'' => ?_⟩
    obtain ⟨sp, rfl⟩ := natOf r0''
    simp? only [PL.z1]
    exact ⟨by decide, hD _ ⟨st_, ot, sp, by omega, by omega, by omega, rfl⟩⟩
  rintro ρ ⟨st_, ot, sp, h1, h2, h3, rfl⟩
  obtain ⟨r, hr1, hr2, hr3⟩ := hT.row st_ h1
  have hsp : sp < r.length := by omega
  -- way 0
  refine seq_if [.bx u, .d m.d, .d (.str (sg m.sg)), .d (.int (m.b : Nat)), .d (.tuple (rowsD m.st)), .d (.tuple (nats m.en)), .d (.int (n : Nat)), .d (.int way), .d (.int (st_ : Nat)), .d (.int (ot : Nat)), .d (.int (sp : Nat)), .un, .un] (fun _ => True) (fun R hR => ?_) (fun _ => ?_) fun _ => ?_
  · simp? only [PL.z1]
    exact ⟨shInt _, shInt _, hR _ trivial⟩
  · simp? only [PL.z1]
    exact ⟨by decide, hP ⟨m.sg, st_, m.st, m.en⟩ rfl ⟨hT, h1, V.en, V.enl, hn8, V.sg⟩⟩
  refine seq_if [.bx u, .d m.d, .d (.str (sg m.sg)), .d (.int (m.b : Nat)), .d (.tuple (rowsD m.st)), .d (.tuple (nats m.en)), .d (.int (n : Nat)), .d (.int way), .d (.int (st_ : Nat)), .d (.int (ot : Nat)), .d (.int (sp : Nat)), .un, .un] (fun _ => True) (fun R hR => ?_) (fun _ => ?_) fun _ => ?_
  · simp? only [PL.z1]
    exact ⟨shInt _, shInt _, hR _ trivial⟩
  · simp? only [PL.z1]
    refine lc_sub n [.bx u, .d m.d, .d (.str (sg m.sg)), .d (.int (m.b : Nat)), .d (.tuple (rowsD m.st)), .d (.tuple (nats m.en)), .d (.int (n : Nat)), .d (.int way), .d (.int (st_ : Nat)), .d (.int (ot : Nat)), .d (.int (sp : Nat)), .un, .un] (fun R hR => ?_) (by simp [barePl, PL.T.bare]) (by omega) (fun i hi R R0 hR hR0 => ?_) fun es e1 e2 e3 => ?_
    · simp? only [PL.z1]
      refine ⟨⟨by omega, by omega⟩, ?_⟩
      simpa using hR
    · simp? only [wipeP, pIn, any_nats, Bool.false_xor]
      refine ⟨shInt _, shNats _, shInt _, shInt _, shBool _, shBool _, ite2 (fun _ => ?_) (fun _ => ?_)⟩
      · exact hR _ rfl
      · exact hR0 _ rfl
    · simp? only [PL.z1]
      exact ⟨by decide, hP ⟨m.sg, m.b, m.st, es⟩ rfl ⟨hT, hb, e2, e1, hn8, V.sg⟩⟩
  have ec : nats (r.take sp) ++ [.int ((ot : Nat) : Int)] ++ nats (r.drop (sp + 1)) = nats (r.set sp ot) := by
    rw [nats_one, nats_app, nats_app, set_cut r sp ot hsp]
  have e1 : ((sp : Nat) : Int) + 1 = ((sp + 1 : Nat) : Int) := by omega
  refine seq_to (fun ρ => ρ = [.bx u, .d m.d, .d (.str (sg m.sg)), .d (.int (m.b : Nat)), .d (.tuple (rowsD m.st)), .d (.tuple (nats m.en)), .d (.int (n : Nat)), .d (.int way), .d (.int (st_ : Nat)), .d (.int (ot : Nat)), .d (.int (sp : Nat)), .d (.tuple (nats (r.set sp ot))), .un]) (fun DP hD => ?_) ?_
  · simp? only [rows_get hr1, e1, cutD_to, nats_take, cutD_from (nats r) (k := sp + 1) (by rw [nats_len]; omega), nats_drop, ec, nats_len]
    refine ⟨by decide, szL (by rw [List.length_take]; omega), szL (by rw [List.length_append, nats_len, List.length_take, List.length_drop]; simp; omega), hD _ rfl⟩
  rintro ρ rfl
  have e2 : ((st_ : Nat) : Int) + 1 = ((st_ + 1 : Nat) : Int) := by omega
  have hstl : st_ < m.st.length := by rw [hT.len]; exact h1
  have es : (rowsD m.st).take st_ ++ [.tuple (nats (r.set sp ot))] ++ (rowsD m.st).drop (st_ + 1) = rowsD (m.st.set st_ (r.set sp ot)) := by
    have e3 : m.st.set st_ (r.set sp ot) = m.st.take st_ ++ r.set sp ot :: m.st.drop (st_ + 1) := by rw [List.set_eq_take_append_cons_drop, if_pos hstl]
    rw [e3]
    simp [rowsD]
  simp? only [e2, cutD_to, cutD_from (rowsD m.st) (k := st_ + 1) (by rw [rows_len]; omega), es]
  refine ⟨by decide, szL (by rw [List.length_take, rows_len, hT.len]; omega), szL (by rw [List.length_append, List.length_take, List.length_drop, rows_len, hT.len]; simp; omega), by decide, hP ⟨m.sg, m.b, m.st.set st_ (r.set sp ot), m.en⟩ rfl ⟨⟨by simp [hT.len], fun s hs => ?_⟩, hb, V.en, V.enl, hn8, V.sg⟩⟩
  by_cases z : s = st_
  · subst z
    refine ⟨r.set sp ot, by simp [hstl], by simp [hr2], fun g hg => ?_⟩
    rcases List.mem_or_eq_of_mem_set hg with y | y
    · exact hr3 g y
    · rw [y]
      exact h2
  · obtain ⟨r', e', l', g'⟩ := hT.row s hs
    exact ⟨r', by simp only []; rw [List.getElem?_set_ne (Ne.symm z)]; exact e', l', g'⟩
end
end C60

set_option Elab.async false
set_option linter.all false
set_option maxRecDepth 100000
namespace C60
open PySem L2 PL PM
abbrev sLeastM : Stmt := top 6
def leastMF : List T → (T → Prop) → Prop := fun ts P => ∃ m : M, ts = [.d m.d] ∧ leastF (parts m) P
section
variable {P : Program} {w : World} {K : PySem.W.Frag} {mg : Str → Option Value} {base : Heap}
theorem scLeastM : FnScope ["machine"] ["machine"] (defScope sLeastM) := ⟨rfl, rfl, rfl, by decide +kernel, rfl, by decide +kernel, by decide +kernel⟩
theorem ok_leastM {f : Addr} {fd : FuncData} (F : Fun K "least_machine" "least_machine" sLeastM f fd) (G : GL P w K mg base) : FnG P w K mg base CX0 3 f fd ["machine"] (spP K urnBox 1 leastMF) := by
  refine fnP F scLeastM fun cdv A outer s H E hr ts Pq hl hφ => ?_
  have S := @scLeastM
  obtain ⟨m, rfl, hP⟩ := hφ
  refine ⟨_, (s_one (s_ret (q_cS G.least_of (hr.mono (by decide)) (by rfl) (q_var 0)))), ?_⟩
  simp? only [M.d, wsT_map]
  obtain ⟨sgl, b, st, en, n, k, e, h1, h2, h3, h4, h5⟩ := hP
  exact ⟨sgl, b, st, en, n, k, e, h1, h2, h3, h4, fun lots p a1 a2 a3 => ⟨h5 lots p a1 a2 a3, trivial⟩⟩
end
end C60

set_option Elab.async false
set_option linter.all false
set_option maxRecDepth 100000
namespace C60
open PySem L2 PL PM
abbrev sKept : Stmt := top 8
abbrev sWm : Stmt := top 9
def keptF : List T → (T → Prop) → Prop := fun ts P => ∃ w row : List Nat, ts = [.d (.str (PL.sg w)), .d (.str (PL.sg row))] ∧ (w.length ≤ 1000 ∧ row.length ≤ 1000) ∧ (SgOk w ∧ SgOk row) ∧ P (.d (.int (kb w row : Nat)))
def wordM (sgl w : List Nat) : M := ⟨sgl, 0, kst sgl w, [w.length]⟩
def wmF : List T → (T → Prop) → Prop := fun ts P => ∃ sgl w : List Nat, ts = [.d (.str (PL.sg sgl)), .d (.str (PL.sg w))] ∧ Word sgl w ∧ (sgl.length < 60 ∧ w.length < 60) ∧ SgOk sgl ∧ P (.d (wordM sgl w).d)
section
variable {P : Program} {w : World} {K : PySem.W.Frag} {mg : Str → Option Value} {base : Heap}
theorem scKept : FnScope ["word", "row", "many"] ["word", "row"] (defScope sKept) := ⟨rfl, rfl, rfl, by decide +kernel, rfl, by decide +kernel, by decide +kernel⟩
theorem ok_kept {f : Addr} {fd : FuncData} (F : Fun K "kept_beginning" "kept_beginning" sKept f fd) (T : Ty2 mg) : FnG P w K mg base CX0 1 f fd ["word", "row"] (spP K urnBox 2 keptF) := by
  refine fnP F scKept fun cdv A outer s H E hr ts Pq hl hφ => ?_
  have S := @scKept
  have hu64 : (A.deeper (PyProof.Rows.envOfC "kept_beginning" (defScope sKept) s.heap.objs.size f cdv)).units + 64 < cLine := hr.units
  obtain ⟨w, row, rfl, ⟨hw, hrow⟩, ⟨ow, orow⟩, hP⟩ := hφ
  refine ⟨_, (s_cons (s_for PassesOwn.never rfl (i_down (by rfl) T.range (a_cons (q_callB c_min2 (call_min2 rfl) (by rfl) T.min (by rfl) (a_cons (q_callB c_len call_lenP (by rfl) T.len (by rfl) (a_cons (q_al 0) a_nil)) (a_cons (q_callB c_len call_lenP (by rfl) T.len (by rfl) (a_cons (q_al 1) a_nil)) a_nil))) (a_cons (q_neg (q_int)) (a_cons (q_neg (q_int)) a_nil)))) (g_name (i := 2) S.nd) (s_one (s_if (t_cmp o_eq (op_eqD hu64) (q_sl (q_al 1) (po_at (q_op o_sub op_sub (q_callB c_len call_lenP (by rfl) T.len (by rfl) (a_cons (q_al 1) a_nil)) (q_al 2))) po_no) (q_sl (q_al 0) po_no (po_at (q_var 2))) (nomark _)) (s_one (s_ret (q_var 2))) s_nil)))
      (s_one (s_ret (q_int)))), ?_⟩
  simp? only [PL.z1]
  have hmin : (if (row.length : Int) < (w.length : Int) then (row.length : Int) else (w.length : Int)) = ((min w.length row.length : Nat) : Int) := by
    split <;> omega
  have h1 := Nat.min_le_left w.length row.length
  have h2 := Nat.min_le_right w.length row.length
  unfold kb at hP
  generalize min w.length row.length = i at hmin h1 h2 hP
  refine forT (downD (i : Nat) (i + 1)) [.d (.str (sg w)), .d (.str (sg row)), .un] (fun j ρ => ∃ t, ρ = [.d (.str (sg w)), .d (.str (sg row)), t] ∧ j ≤ i ∧ kbGo w row i = kbGo w row (i - j)) (fun R hR => ?_) ⟨.un, rfl, Nat.zero_le _, rfl⟩ (fun j d ρ hd ⟨t, hρ, hj, hk⟩ => ?_) (fun ρ ⟨t, hρ, hj, hk⟩ => ?_)
  · simp? only [sg_len, hmin]
    refine ⟨by rw [sizeLine_eq]; omega, by rw [sizeLine_eq]; omega, ⟨by omega, by omega, by decide, by decide⟩, ?_⟩
    have e : ((i : Int) - -1).toNat = i + 1 := by omega
    rw [e]
    exact hR
  · subst hρ
    have hji : j < i + 1 := by have := (List.getElem?_eq_some_iff.mp hd).1; simpa [downD] using this
    have ed : d = .int ((i - j : Nat) : Int) := by
      simp [downD, hji] at hd
      rw [← hd]
      congr 1
      omega
    subst ed
    have e1 : ((row.length : Int) - ((i - j : Nat) : Int)) = ((row.length - (i - j) : Nat) : Int) := by omega
    simp? only [sg_len, e1, cut_from row (k := row.length - (i - j)) (by omega), cut_to, eqv_sg]
    refine ⟨by rw [sizeLine_eq]; omega, by rw [sizeLine_eq]; omega, by rw [sizeLine_eq]; omega, (lay_str (k := 0) (sg_ok fun c hc => orow c (List.mem_of_mem_drop hc))).shaped, (lay_str (k := 0) (sg_ok fun c hc => ow c (List.mem_of_mem_take hc))).shaped, ite2 (fun q => ?_) (fun q => ?_)⟩
    · have q := of_decide_eq_true q
      have e2 : kbGo w row (i - j) = i - j := by
        cases hm : i - j with
        | zero => rfl
        | succ m =>
          unfold kbGo
          rw [hm] at q
          rw [if_pos q]
      rw [← e2, ← hk]
      exact hP
    · have q : ¬ row.drop (row.length - (i - j)) = w.take (i - j) := fun z => q (decide_eq_true z)
      have hne : i - j ≠ 0 := fun z => q (by rw [z]; simp)
      obtain ⟨m, hm⟩ : ∃ m, i - j = m + 1 := ⟨i - j - 1, by omega⟩
      refine ⟨_, rfl, by omega, ?_⟩
      rw [hk, hm, show i - (j + 1) = m by omega]
      conv => lhs; unfold kbGo
      rw [hm] at q
      rw [if_neg q]
  · have : (downD (i : Nat) (i + 1)).length = i + 1 := by simp [downD]
    omega
structure GWm (P : Program) (w : World) (K : PySem.W.Frag) (mg : Str → Option Value) (base : Heap) : Prop extends GL P w K mg base where
  kept_beginning : Cal P w K mg base urnBox 1 "kept_beginning" ["word", "row"] 2 keptF
theorem scWm : FnScope ["signs", "word", "size", "items", "many", "sign"] ["signs", "word"] (defScope sWm) := ⟨rfl, rfl, rfl, by decide +kernel, rfl, by decide +kernel, by decide +kernel⟩
theorem ok_wm {f : Addr} {fd : FuncData} (F : Fun K "word_machine" "word_machine" sWm f fd) (T : Ty2 mg) (G : GWm P w K mg base) : FnG P w K mg base CX0 3 f fd ["signs", "word"] (spP K urnBox 2 wmF) := by
  refine fnP F scWm fun cdv A outer s H E hr ts Pq hl hφ => ?_
  have S := @scWm
  obtain ⟨sgl, w, rfl, hW, ⟨hs, hw⟩, osg, hP⟩ := hφ
  refine ⟨_, (s_cons (s_set (i := 2) S.nd (q_callB c_len call_lenP (by rfl) T.len (by rfl) (a_cons (q_al 1) a_nil)))
      (s_cons (s_setLc (i := 3) (own := [("many", 4)]) rfl S.nd (sw_true rfl rfl rfl (by decide +kernel)) (i_range1 (by rfl) T.range (a_cons (q_var 2) a_nil)) (blkOk_by (by kernel_rfl)) (fun _ _ _ _ _ => (gv_name (i := 4) S.nd)) (fun _ _ _ _ _ => ts_nil) (fun _ _ _ _ _ => (q_callTy c_tupOf call_tupP (by rfl) T.tuple (by rfl) (a_cons (q_lc (own := [("sign", 5)]) rfl S.nd (i_str (q_var 0)) (blkOk_by (by kernel_rfl)) (fun _ _ _ _ _ => (gv_name (i := 5) S.nd)) (fun _ _ _ _ _ => ts_nil) (fun _ _ _ _ _ => (q_cF G.kept_beginning (hr.mono (by decide)) (by rfl) (a_cons (q_var 1) (a_cons (q_op o_add op_addP (q_sl (q_al 1) po_no (po_at (q_var 4))) (q_al 5)) a_nil))))) a_nil))))
      (s_one (s_ret (q_cF G.least_of (hr.mono (by decide)) (by rfl) (a_cons (q_var 0) (a_cons (q_int) (a_cons (q_op o_add op_addP (q_callTy c_tupOf call_tupP (by rfl) T.tuple (by rfl) (a_cons (q_al 3) a_nil)) (q_tup (a_cons (q_op o_mul op_mulP (q_tup (a_cons (q_var 2) a_nil)) (q_callB c_len call_lenP (by rfl) T.len (by rfl) (a_cons (q_al 0) a_nil))) a_nil))) (a_cons (q_tup (a_cons (q_var 2) a_nil)) a_nil))))))))), ?_⟩
  have sz : ∀ {m : Nat}, m < 1000 → m ≤ sizeLine := fun h => by rw [sizeLine_eq]; omega
  have ow : SgOk w := fun c hc => osg c (hW.sub c hc)
  simp? only [sg_len]
  refine ⟨sz (by omega), ?_⟩
  refine lc_mapS (rangeD 0 w.length) (rowsD ((List.range w.length).map fun m => sgl.map fun c => kb w (w.take m ++ [c]))) (fun R hR => ?_) (by simp [barePl, PL.T.bare]) (by simp [rowsD, rangeD]) (by rw [rangeD_len]; exact sz (by omega)) (fun i d o hd ho R hR => ?_) ?_
  · simp? only [PL.z1]
    refine ⟨⟨by omega, by omega⟩, ?_⟩
    simpa using hR
  · have hi : i < w.length := by have := (List.getElem?_eq_some_iff.mp hd).1; rwa [rangeD_len] at this
    rw [nats_range hi] at hd
    cases hd
    rw [rows_get (r := sgl.map fun c => kb w (w.take i ++ [c])) (by simp [hi])] at ho
    cases ho
    simp? only [wipeP]
    refine lc_mapS (sgl.map fun c => .str (sg [c])) (nats (sgl.map fun c => kb w (w.take i ++ [c]))) (fun R' hR' => ?_) (by simp [barePl, PL.T.bare]) (by simp [nats]) (by rw [List.length_map]; exact sz (by omega)) (fun j d o hd ho R' hR' => ?_) ?_
    · simp? only [sg_signs]
      exact hR'
    · obtain ⟨c, hc⟩ : ∃ c, sgl[j]? = some c := by
        have := (List.getElem?_eq_some_iff.mp hd).1
        rw [List.length_map] at this
        exact ⟨_, List.getElem?_eq_getElem this⟩
      rw [List.getElem?_map, hc] at hd
      cases hd
      rw [nats_get (n := kb w (w.take i ++ [c])) (by simp [hc])] at ho
      cases ho
      simp? only [wipeP, cut_to, sg_len, sg_app]
      refine ⟨sz (by omega), by rw [sizeLine_eq, List.length_take]; omega, w, w.take i ++ [c], rfl, ⟨by omega, by rw [List.length_append, List.length_take]; simp; omega⟩, ⟨ow, fun x hx => ?_⟩, hR' _ _ rfl rfl⟩
      rcases List.mem_append.mp hx with z | z
      · exact ow x (List.mem_of_mem_take z)
      · obtain rfl := List.mem_singleton.mp z
        exact osg x (List.mem_of_getElem? hc)
    · simp? only [PL.z1]
      exact hR _ _ rfl rfl
  · simp? only [sg_len]
    have hne : 1 ≤ sgl.length := by
      obtain ⟨c, hc⟩ := List.exists_mem_of_ne_nil _ hW.ne
      exact List.length_pos_of_mem (hW.sub c hc)
    have e1 : rowsD ((List.range w.length).map fun m => sgl.map fun c => kb w (w.take m ++ [c])) ++ [PyData.tuple (List.replicate ((sgl.length : Nat) : Int).toNat [PyData.int (w.length : Nat)]).flatten] = rowsD (kst sgl w) := by
      have e2 : (List.replicate ((sgl.length : Nat) : Int).toNat [PyData.int (w.length : Nat)]).flatten = nats (List.replicate sgl.length w.length) := by
        rw [Int.toNat_natCast, nats, List.map_replicate]
        induction sgl.length with
        | zero => rfl
        | succ m ih => rw [List.replicate_succ, List.flatten_cons, ih, List.replicate_succ]; rfl
      rw [e2]
      unfold kst rowsD
      rw [List.map_append]
      rfl
    rw [e1]
    refine ⟨sz (by omega), sz (by omega), ⟨by omega, by omega⟩, sz (by omega), by rw [rows_len, List.length_map, List.length_range, sizeLine_eq]; omega, sz (by omega),
      sgl, 0, kst sgl w, [w.length], w.length + 1, sgl.length, rfl, kst_tab sgl w, by omega, by omega, by omega, fun lots p hL hLive hp => ⟨?_, trivial⟩⟩
    obtain ⟨g1, g2⟩ := word_least hW hL hLive hp
    rw [g1, g2]
    exact hP
end
end C60

set_option Elab.async false
set_option linter.all false
set_option maxRecDepth 100000
namespace C60
open PySem L2 PL PM
/-! ### pairs -/
def pairD (n2 c : Nat) : D := .tuple (nats [c / n2, c % n2])
def pairsD (n2 : Nat) (sh : List Nat) : List D := sh.map (pairD n2)
def stepsD (n2 : Nat) (st : List (List Nat)) (sh : List Nat) : List D := sh.map fun s => .list (pairsD n2 (st.getD s []))
theorem pairsD_len (n2 : Nat) (sh : List Nat) : (pairsD n2 sh).length = sh.length := by simp [pairsD]
theorem stepsD_len (n2 : Nat) (st : List (List Nat)) (sh : List Nat) : (stepsD n2 st sh).length = sh.length := by simp [stepsD]
theorem stepsD_app (n2 : Nat) (st : List (List Nat)) (a b : List Nat) : stepsD n2 st (a ++ b) = stepsD n2 st a ++ stepsD n2 st b := List.map_append
theorem pairsD_get {n2 : Nat} {sh : List Nat} {i c : Nat} (h : sh[i]? = some c) : (pairsD n2 sh)[i]? = some (pairD n2 c) := by simp [pairsD, h]
theorem pairD_nob {n2 c : Nat} : nob (pairD n2 c) = true := nob_tup
theorem pairD_lay {n2 c : Nat} : Lay 1 (pairD n2 c) := lay_tup (lay_nats _)
theorem pairsD_nob {n2 : Nat} {sh : List Nat} : nobAll (pairsD n2 sh) = true := nobAll_iff.mpr fun d h => by
  obtain ⟨c, _, rfl⟩ := List.mem_map.mp h
  exact pairD_nob
theorem pairsD_lay {n2 : Nat} {sh : List Nat} : Lay 2 (.list (pairsD n2 sh)) := lay_list fun d h => by
  obtain ⟨c, _, rfl⟩ := List.mem_map.mp h
  exact pairD_lay
theorem pairD_inj {n2 a b : Nat} (h : pairD n2 a = pairD n2 b) : a = b := by
  have := tup_inj h
  injection this with h1 h2
  injection h2 with h2 _
  rw [← code_eq (n2 := n2) a, ← code_eq (n2 := n2) b, h1, h2]
theorem any_pairs (n2 : Nat) (sh : List Nat) (c : Nat) : ((pairsD n2 sh).any fun z => PyData.eqv z (pairD n2 c)) = decide (c ∈ sh) := by
  rw [Bool.eq_iff_iff, List.any_eq_true, decide_eq_true_eq]
  constructor
  · rintro ⟨z, hz, e⟩
    obtain ⟨m, hm, rfl⟩ := List.mem_map.mp hz
    rw [← pairD_inj ((eqv_iff _ _ pairD_nob pairD_nob).mp e)]
    exact hm
  · intro h
    exact ⟨pairD n2 c, List.mem_map.mpr ⟨c, h, rfl⟩, (eqv_iff _ _ pairD_nob pairD_nob).mpr rfl⟩
theorem zip_nats {n1 n2 : Nat} : ∀ {r1 r2 : List Nat}, (∀ g ∈ r2, g < n2) → zipD (nats r1) (nats r2) = pairsD n2 (List.zipWith (fun x y => x * n2 + y) r1 r2)
  | [], _, _ => by simp [zipD, nats, pairsD]
  | _ :: _, [], _ => by simp [zipD, nats, pairsD]
  | x :: r1, y :: r2, h => by
    have ih := zip_nats (n1 := n1) (r1 := r1) (r2 := r2) fun g hg => h g (List.mem_cons_of_mem _ hg)
    obtain ⟨d1, d2⟩ := pair_div (x := x) (h y List.mem_cons_self)
    simp only [zipD, nats, pairsD, List.map_cons, List.zipWith_cons_cons] at ih ⊢
    rw [ih]
    simp [pairD, nats, d1, d2]
theorem pairsD_ne {n2 : Nat} {l : List Nat} {m c : Nat} (h : l[m]? ≠ some c) : (pairsD n2 l)[m]? ≠ some (pairD n2 c) := fun z => by
  cases q : l[m]? with
  | none =>
    rw [pairsD, List.getElem?_map, q] at z
    cases z
  | some y =>
    rw [pairsD_get q] at z
    exact h (by rw [q, pairD_inj (Option.some.inj z)])
abbrev pS (m1 m2 : M) (n1 n2 : Nat) := pst m1.st m2.st n1 n2
def pairsF : List T → (T → Prop) → Prop := fun ts P => ∃ (m1 m2 : M) (n1 n2 k : Nat), ts = [.d m1.d, .d m2.d] ∧ Tab m1.st n1 k ∧ Tab m2.st n2 k ∧ (m1.b < n1 ∧ m2.b < n2) ∧ (n1 * n2 < 64 ∧ k < 64) ∧
  ∀ p, Live (pS m1 m2 n1 n2) (List.range (n1 * n2)) (m1.b * n2 + m2.b) p → (it (pS m1 m2 n1 n2) (List.range (n1 * n2)) (m1.b * n2 + m2.b) p).length ≤ p →
    P (.d (.tuple [.list (pairsD n2 (it (pS m1 m2 n1 n2) (List.range (n1 * n2)) (m1.b * n2 + m2.b) p)), .list (stepsD n2 (pS m1 m2 n1 n2) (it (pS m1 m2 n1 n2) (List.range (n1 * n2)) (m1.b * n2 + m2.b) p))]))
section
variable {P : Program} {w : World} {K : PySem.W.Frag} {mg : Str → Option Value} {base : Heap}
end
end C60

set_option Elab.async false
set_option linter.all false
set_option maxRecDepth 100000
namespace C60
open PySem L2 PL PM
abbrev sAlike : Stmt := top 7
/-! ### rows gone through, as data -/
def rowS (l w : List Nat) : D := .str (PL.sg (w.map fun i => l.getD i 0))
def rowO (l : List Nat) : Option (List Nat) → D
  | none => .none
  | some w => rowS l w
def waitD (l : List Nat) (n2 : Nat) (sh : Its) : List D := sh.map fun x => .tuple [rowS l x.2, .int ((x.1 / n2 : Nat) : Int), .int ((x.1 % n2 : Nat) : Int)]
def seenK (n2 : Nat) (sh : Its) : List (List Key × D) := sh.map fun x => (keyN [x.1 / n2, x.1 % n2], .bool true)
def badP (m1 m2 : M) (n2 : Nat) (s : Nat) : Prop := ¬ (s / n2 ∈ m1.en ↔ s % n2 ∈ m2.en)
theorem waitD_len (l : List Nat) (n2 : Nat) (sh : Its) : (waitD l n2 sh).length = sh.length := by simp [waitD]
theorem seenK_len (n2 : Nat) (sh : Its) : (seenK n2 sh).length = sh.length := by simp [seenK]
theorem keys_pair (a b : Nat) : keysOf (.tuple [.int ((a : Nat) : Int), .int ((b : Nat) : Int)]) = some (keyN [a, b]) := keysOf_keyN [a, b]
theorem key_pair {n2 a b : Nat} (h : keyN [a / n2, a % n2] = keyN [b / n2, b % n2]) : a = b := by
  have := keyN_inj h
  injection this with h1 h2
  injection h2 with h2 _
  rw [← code_eq (n2 := n2) a, ← code_eq (n2 := n2) b, h1, h2]
theorem seen_val (n2 g : Nat) : ∀ sh : Its, valD (seenK n2 sh) (keyN [g / n2, g % n2]) = if g ∈ sh.map (·.1) then some (.bool true) else none
  | [] => rfl
  | x :: sh => by
    have ih := seen_val n2 g sh
    unfold seenK valD at ih ⊢
    rw [List.map_cons, List.find?_cons]
    by_cases e : x.1 = g
    · simp [e]
    · have : decide (keyN [x.1 / n2, x.1 % n2] = keyN [g / n2, g % n2]) = false := decide_eq_false fun h => e (key_pair h)
      rw [this]
      simp only [ih, List.map_cons, List.mem_cons, show ¬ g = x.1 from fun h => e h.symm, false_or]
theorem row_len {st : List (List Nat)} {n k b p j : Nat} {sh : Its} (G : Going st n k b p j sh) : ∀ (r : Nat) x, sh[r]? = some x → x.2.length ≤ r
  | r, x, h => by
    rcases G.from_ r x h with e | ⟨q, y, i, hq, e, _⟩
    · rw [e]; exact Nat.zero_le _
    · have hl : x.2.length = y.2.length + 1 := by rw [e]; simp
      have hqr : q < r := by
        rcases Nat.lt_trichotomy q r with z | z | z
        · exact z
        · subst z
          rw [h] at hq
          cases hq
          omega
        · have := G.ord r q x y z h hq
          unfold slt at this
          omega
      have := row_len G q y hq
      omega
theorem rowS_snoc {l w : List Nat} {c j : Nat} (h : l[j]? = some c) : PL.sg (w.map fun i => l.getD i 0) ++ PL.sg [c] = PL.sg ((w ++ [j]).map fun i => l.getD i 0) := by
  rw [sg_app]
  simp [List.getD_eq_getElem?_getD, h]
def alikeX (AU : Addr) : List T → (T → Prop) → (EX → Prop) → Prop := fun ts P PX => ∃ (m1 m2 : M) (n1 n2 : Nat), ts = [.d m1.d, .d m2.d] ∧ (Tab m1.st n1 m1.sg.length ∧ m1.b < n1 ∧ Lett m1.sg) ∧ (Tab m2.st n2 m2.sg.length ∧ m2.b < n2 ∧ Lett m2.sg) ∧ n1 * n2 ≤ 64 ∧
  (m1.sg ≠ m2.sg → PX ⟨.ref AU, none⟩) ∧ (m1.sg = m2.sg → ∀ o, First (pS m1 m2 n1 n2) (m1.b * n2 + m2.b) (badP m1 m2 n2) o → P (.d (rowO m1.sg o)))
structure Errs (P : Program) (K : PySem.W.Frag) (mg : Str → Option Value) (AUnfit AChainError : Addr) : Prop where
  g_Unfit : mg "Unfit" = some (.ref AUnfit)
  g_ChainError : mg "ChainError" = some (.ref AChainError)
  mk_Unfit : Mk0 P K AUnfit
  x_Unfit : ExcC K AUnfit
  e_Unfit_Unfit : PySem.W.exmOne K (.ref AUnfit) (.ref AUnfit) = some true
  k_Unfit_ChainError : PySem.W.kitOne K (.ref AUnfit) (.ref AChainError) = some true
  k_Unfit_ValueError : PySem.W.kitOne K (.ref AUnfit) (.type "ValueError") = some true
  n_ValueError : mg "ValueError" = none
  n_isinstance : mg "isinstance" = none
theorem pair_row {m1 m2 : M} {n1 n2 k : Nat} (T1 : Tab m1.st n1 k) (T2 : Tab m2.st n2 k) {c : Nat} (hc : c < n1 * n2) : ∃ r1 r2, m1.st[c / n2]? = some r1 ∧ m2.st[c % n2]? = some r2 ∧ r1.length = k ∧ r2.length = k ∧ (∀ g ∈ r2, g < n2) ∧ (pS m1 m2 n1 n2)[c]? = some (List.zipWith (fun x y => x * n2 + y) r1 r2) := by
  obtain ⟨h1, h2⟩ := div_lt hc
  obtain ⟨r1, e1, l1, g1⟩ := T1.row _ h1
  obtain ⟨r2, e2, l2, g2⟩ := T2.row _ h2
  have := pst_row h1 h2 e1 e2
  rw [code_eq] at this
  exact ⟨r1, r2, e1, e2, l1, l2, g2, this⟩
section
variable {P : Program} {w : World} {K : PySem.W.Frag} {mg : Str → Option Value} {base : Heap}
theorem scAlike : FnScope ["one", "other", "waiting", "seen", "place", "row", "left", "right", "sign", "pair"] ["one", "other"] (defScope sAlike) := ⟨rfl, rfl, rfl, by decide +kernel, rfl, by decide +kernel, by decide +kernel⟩
set_option maxHeartbeats 1000000 in
theorem ok_alike {AUnfit AChainError : Addr} {f : Addr} {fd : FuncData} (F : Fun K "alike_machines" "alike_machines" sAlike f fd) (T : Ty2 mg) (Z : Errs P K mg AUnfit AChainError) : FnG P w K mg base (L2.CX P w) 2 f fd ["one", "other"] (spX K urnBox 2 (alikeX AUnfit)) := by
  refine fnX (fun _ _ => True.intro) F scAlike fun cdv A outer s H E hr ts Pq PX hl hφ G0 F0 bw tk => ?_
  have S := @scAlike
  have hu65 : (A.deeper (PyProof.Rows.envOfC "alike_machines" (defScope sAlike) s.heap.objs.size f cdv)).units + 65 < cLine := by have := hr.un; omega
  have hu64 : (A.deeper (PyProof.Rows.envOfC "alike_machines" (defScope sAlike) s.heap.objs.size f cdv)).units + 64 < cLine := hr.units
  obtain ⟨m1, m2, n1, n2, rfl, ⟨T1, b1, S1⟩, ⟨T2, b2, S2⟩, hn, hU, hJ⟩ := hφ
  refine ⟨_, (s_cons (s_if (t_cmp o_ne (op_neD hu64) (q_ix (q_al 0) (q_int)) (q_ix (q_al 1) (q_int)) (nomark _)) (s_one (s_raise0 (hr.toRoom.mono (by decide)) Z.mk_Unfit tk bw (by rfl) Z.g_Unfit)) s_nil)
      (s_cons (s_par3 (i := 2) (j := 3) (l := 4) rfl S.nd (by decide) (by decide) (by decide) (b_cons (q_lst (a_cons (q_tup (a_cons (q_str) (a_cons (q_ix (q_al 0) (q_int)) (a_cons (q_ix (q_al 1) (q_int)) a_nil)))) a_nil)) (b_cons (q_disp1T hu64 (q_tup (a_cons (q_ix (q_al 0) (q_int)) (a_cons (q_ix (q_al 1) (q_int)) a_nil))) (q_bl)) (b_cons (q_int) b_nil))) (by rfl))
      (s_cons (s_while (passes_of rfl) (t_cmp o_lt op_lt (q_al 4) (q_callB c_len call_lenP (by rfl) T.len (by rfl) (a_cons (q_al 2) a_nil)) (nomark _)) (s_cons (s_asg (q_ix (q_al 2) (q_var 4)) (g_tup (n := 3) rfl (gs_cons (g_name (i := 5) S.nd) (gs_cons (g_name (i := 6) S.nd) (gs_cons (g_name (i := 7) S.nd) gs_nil)))))
      (s_cons (s_if (t_cmp o_ne (op_neD hu64) (q_cmp o_in (op_inP hu65) (q_al 6) (q_ix (q_al 0) (q_int)) (by rfl)) (q_cmp o_in (op_inP hu65) (q_al 7) (q_ix (q_al 1) (q_int)) (by rfl)) (nomark _)) (s_one (s_ret (q_var 5))) s_nil)
      (s_cons (s_for (passes_of rfl) rfl (i_zipSS (by rfl) T.zip (q_ix (q_al 0) (q_int)) (a_cons (q_ix (q_ix (q_al 0) (q_int)) (q_var 6)) (a_cons (q_ix (q_ix (q_al 1) (q_int)) (q_var 7)) a_nil))) (g_tup (n := 2) rfl (gs_cons (g_name (i := 8) S.nd) (gs_cons (g_name (i := 9) S.nd) gs_nil))) (s_one (s_if (t_niD 3 hu64 (q_var 9)) (s_cons (s_putD 3 hu64 (q_bl) (q_var 9))
      (s_one (s_expr (q_app 2 (q_tup (a_cons (q_op o_add op_addP (q_al 5) (q_al 8)) (a_star (q_var 9) a_nil))))))) s_nil)))
      (s_one (s_set (i := 4) S.nd (q_op o_add op_addP (q_al 4) (q_int))))))))
      (s_one (s_ret (q_non)))))), ?_⟩
  have shp1 : SeqAt.shaped (.str (sg m1.sg)) = true := (lay_str (k := 0) (sg_ok S1.ok)).shaped
  have shp2 : SeqAt.shaped (.str (sg m2.sg)) = true := (lay_str (k := 0) (sg_ok S2.ok)).shaped
  simp only [startP, endsP, List.length_cons, List.length_nil, Nat.zero_add, Nat.reduceAdd, Nat.reduceSub, List.reduceReplicate, List.cons_append, List.nil_append]
  refine seq_if [.d m1.d, .d m2.d, .un, .un, .un, .un, .un, .un, .un, .un] (fun c => (c = true ↔ m1.sg ≠ m2.sg)) (fun R hR => ?_) (fun h2 => ?_) fun h2 => ?_
  · simp? only [M.d, eqv_sg]
    exact ⟨shp1, shp2, hR _ (by simp)⟩
  · simp? only [M.d]
    exact hU (h2.mp rfl)
  have hsg : m1.sg = m2.sg := Classical.byContradiction fun z => by have := h2.mpr z; cases this
  rw [← hsg] at T2
  have hT : Tab (pS m1 m2 n1 n2) (n1 * n2) m1.sg.length := pst_tab T1 T2
  have hb : m1.b * n2 + m2.b < n1 * n2 := pair_lt b1 b2
  have hrow := fun c hc => pair_row (m1 := m1) (m2 := m2) (c := c) T1 T2 hc
  obtain ⟨d1, d2⟩ := pair_div (x := m1.b) b2
  have eb : ∀ A : D, PyData.tuple [A, .int (m1.b : Nat), .int (m2.b : Nat)] = .tuple [A, .int (((m1.b * n2 + m2.b) / n2 : Nat) : Int), .int (((m1.b * n2 + m2.b) % n2 : Nat) : Int)] := fun A => by rw [d1, d2]
  have ek : keyN [m1.b, m2.b] = keyN [(m1.b * n2 + m2.b) / n2, (m1.b * n2 + m2.b) % n2] := by rw [d1, d2]
  have hJ' := hJ hsg
  have hk := S1.len
  refine seq_to (fun ρ => ρ = [.d m1.d, .d m2.d, .l (waitD m1.sg n2 [(m1.b * n2 + m2.b, [])]), .kt (seenK n2 [(m1.b * n2 + m2.b, [])]), .d (.int 0), .un, .un, .un, .un, .un]) (fun DP hD => ?_) ?_
  · simp? only [M.d, keys_pair, ek, eb]
    exact ⟨szL (by decide), szL (by decide), by decide, by decide, hD _ rfl⟩
  rintro ρ rfl
  clear eb ek d1 d2 hJ
  revert hT hb hrow hJ'
  generalize n1 * n2 = n at hn ⊢
  generalize m1.b * n2 + m2.b = b
  generalize pS m1 m2 n1 n2 = st
  intro hT hb hrow hJ'
  refine seq_toR (fun ρ => ∃ t5 t6 t7 t8 t9 sh1 sh2 x, First st b (badP m1 m2 n2) none ∧ ρ = [.d m1.d, .d m2.d, sh1, sh2, x, t5, t6, t7, t8, t9]) (fun N hN => ?_) ?_
  · refine whileT (fun m ρ => ∃ (p : Nat) (t5 t6 t7 t8 t9 : PL.T), LiveW st b p ∧ (∀ q x, q < p → (itW st b p)[q]? = some x → ¬ badP m1 m2 n2 x.1) ∧ m = n - p ∧
      ρ = [.d m1.d, .d m2.d, .l (waitD m1.sg n2 (itW st b p)), .kt (seenK n2 (itW st b p)), .d (.int (p : Nat)), t5, t6, t7, t8, t9]) (fun _ ρ c => ∀ p, ρ[4]? = some (.d (.int ((p : Nat) : Int))) → (c = true ↔ p < (itW st b p).length))
      ⟨n, 0, .un, .un, .un, .un, .un, (fun q hq => by omega), (fun q x hq => by omega), by omega, rfl⟩ ?_ ?_ ?_
    · rintro m ρ ⟨p, t5, t6, t7, t8, t9, hLive, hno, rfl, rfl⟩ R hR
      simp? only [waitD_len]
      refine hR _ fun p' hp' => ?_
      have : p = p' := by
        simp at hp'
        omega
      subst this
      simp
    · rintro m ρ ⟨p, t5, t6, t7, t8, t9, hLive, hno, rfl, rfl⟩ hC
      have hp : p < (itW st b p).length := (hC p rfl).mp rfl
      have hG := itW_going hT hb p hLive
      have hln := itW_len hT hb hLive
      obtain ⟨x, hx⟩ : ∃ x, (itW st b p)[p]? = some x := ⟨_, List.getElem?_eq_getElem hp⟩
      obtain ⟨hx1, hx2, hx3⟩ := hG.ok p x hx
      have hxl := row_len hG p x hx
      obtain ⟨r1, r2, e1, e2, l1, l2, g2, er⟩ := hrow x.1 hx1
      have hw : (waitD m1.sg n2 (itW st b p))[p]? = some (.tuple [rowS m1.sg x.2, .int ((x.1 / n2 : Nat) : Int), .int ((x.1 % n2 : Nat) : Int)]) := by simp [waitD, hx]
      refine seq_to (fun ρ => ρ = [.d m1.d, .d m2.d, .l (waitD m1.sg n2 (itW st b p)), .kt (seenK n2 (itW st b p)), .d (.int (p : Nat)), .d (rowS m1.sg x.2), .d (.int ((x.1 / n2 : Nat) : Int)), .d (.int ((x.1 % n2 : Nat) : Int)), t8, t9]) (fun DP hD => ?_) ?_
      · simp? only [hw]
        exact hD _ rfl
      rintro ρ rfl
      refine seq_if [.d m1.d, .d m2.d, .l (waitD m1.sg n2 (itW st b p)), .kt (seenK n2 (itW st b p)), .d (.int (p : Nat)), .d (rowS m1.sg x.2), .d (.int ((x.1 / n2 : Nat) : Int)), .d (.int ((x.1 % n2 : Nat) : Int)), t8, t9] (fun c => (c = true ↔ badP m1 m2 n2 x.1)) (fun R hR => ?_) (fun h2 => ?_) fun h2 => ?_
      · simp? only [M.d, pIn, any_nats, Bool.false_xor, eqv_bb]
        refine ⟨shInt _, shNats _, shInt _, shNats _, shBool _, shBool _, hR _ ?_⟩
        simp [badP]
      · simp? only [PL.z1]
        exact hJ' _ (.found hLive hno (s := x.1) (w := x.2) hx (h2.mp rfl))
      have hnb : ¬ badP m1 m2 n2 x.1 := fun z => by have := h2.mpr z; cases this
      have hturn : itW st b (p + 1) = ((List.zipWith (fun x y => x * n2 + y) r1 r2).zipIdx).foldl (addW x.2) (itW st b p) := by
        show turnW _ _ _ = _
        unfold turnW
        simp [List.getD_eq_getElem?_getD, hx, er]
      have hrl : (List.zipWith (fun x y => x * n2 + y) r1 r2).length = m1.sg.length := by simp [l1, l2]
      have hLive' : LiveW st b (p + 1) := fun q hq => by
        by_cases z : q = p
        · subst z; exact hp
        · exact hLive q (by omega)
      have hpre := itW_pre hT hb hLive'
      have hGj : ∀ j, j ≤ m1.sg.length → Going st n m1.sg.length b p j (((List.zipWith (fun x y => x * n2 + y) r1 r2).zipIdx.take j).foldl (addW x.2) (itW st b p)) ∧ (((List.zipWith (fun x y => x * n2 + y) r1 r2).zipIdx.take j).foldl (addW x.2) (itW st b p))[p]? = some x := fun j => by
        induction j with
        | zero => exact fun _ => ⟨hG, hx⟩
        | succ j ih =>
          intro hj
          obtain ⟨i1, i2⟩ := ih (by omega)
          obtain ⟨g, hg⟩ : ∃ g, (List.zipWith (fun x y => x * n2 + y) r1 r2)[j]? = some g := ⟨_, List.getElem?_eq_getElem (by omega)⟩
          have hz : (List.zipWith (fun x y => x * n2 + y) r1 r2).zipIdx[j]? = some (g, j) := by rw [List.getElem?_zipIdx, hg]; simp
          have et : (List.zipWith (fun x y => x * n2 + y) r1 r2).zipIdx.take (j + 1) = (List.zipWith (fun x y => x * n2 + y) r1 r2).zipIdx.take j ++ [(g, j)] := by rw [List.take_add_one, hz]; rfl
          have hgx : nx st x.1 j = g := by rw [← row_get er j, List.getD_eq_getElem?_getD, hg]; rfl
          rw [et, List.foldl_append]
          obtain ⟨a1, a2⟩ := going_add hT i1 (s := x.1) (w := x.2) i2 (j := j) (by omega)
          rw [hgx] at a1 a2
          exact ⟨a1, by
            obtain ⟨t, ht⟩ := a2
            show (addW x.2 _ (g, j))[p]? = _
            rw [← ht, List.getElem?_append_left (List.getElem?_eq_some_iff.mp i2).1]
            exact i2⟩
      -- the rows behind
      refine seq_to (fun ρ => ∃ t8 t9 : PL.T, ρ = [.d m1.d, .d m2.d, .l (waitD m1.sg n2 (itW st b (p + 1))), .kt (seenK n2 (itW st b (p + 1))), .d (.int (p : Nat)), .d (rowS m1.sg x.2), .d (.int ((x.1 / n2 : Nat) : Int)), .d (.int ((x.1 % n2 : Nat) : Int)), t8, t9]) (fun DP hD => ?_) ?_
      · refine forT (zipD (m1.sg.map fun c => .str (PL.sg [c])) (pairsD n2 (List.zipWith (fun x y => x * n2 + y) r1 r2))) [.d m1.d, .d m2.d, .l (waitD m1.sg n2 (itW st b p)), .kt (seenK n2 (itW st b p)), .d (.int (p : Nat)), .d (rowS m1.sg x.2), .d (.int ((x.1 / n2 : Nat) : Int)), .d (.int ((x.1 % n2 : Nat) : Int)), t8, t9]
          (fun j ρ => ∃ t8 t9 : PL.T, ρ = [.d m1.d, .d m2.d, .l (waitD m1.sg n2 (((List.zipWith (fun x y => x * n2 + y) r1 r2).zipIdx.take j).foldl (addW x.2) (itW st b p))), .kt (seenK n2 (((List.zipWith (fun x y => x * n2 + y) r1 r2).zipIdx.take j).foldl (addW x.2) (itW st b p))), .d (.int (p : Nat)), .d (rowS m1.sg x.2), .d (.int ((x.1 / n2 : Nat) : Int)), .d (.int ((x.1 % n2 : Nat) : Int)), t8, t9])
          (fun R hR => ?_) ⟨t8, t9, rfl⟩ (fun j d ρ hd ⟨t8, t9, hρ⟩ => ?_) (fun ρ ⟨t8, t9, hρ⟩ => ?_)
        · simp? only [M.d, rows_get e1, rows_get e2, sg_signs, zip_nats (n1 := n1) g2]
          exact hR
        · subst hρ
          have hj : j < m1.sg.length := by
            have := (List.getElem?_eq_some_iff.mp hd).1
            rw [zipD_len, List.length_map] at this
            omega
          obtain ⟨c, hc⟩ : ∃ c, m1.sg[j]? = some c := ⟨_, List.getElem?_eq_getElem hj⟩
          obtain ⟨g, hg⟩ : ∃ g, (List.zipWith (fun x y => x * n2 + y) r1 r2)[j]? = some g := ⟨_, List.getElem?_eq_getElem (by omega)⟩
          have ed : (zipD (m1.sg.map fun c => PyData.str (PL.sg [c])) (pairsD n2 (List.zipWith (fun x y => x * n2 + y) r1 r2)))[j]? = some (.tuple [.str (PL.sg [c]), .tuple [.int ((g / n2 : Nat) : Int), .int ((g % n2 : Nat) : Int)]]) := zipD_get (by simp [hc]) (pairsD_get hg)
          rw [ed] at hd
          cases hd
          have hz : (List.zipWith (fun x y => x * n2 + y) r1 r2).zipIdx[j]? = some (g, j) := by rw [List.getElem?_zipIdx, hg]; simp
          have et : (List.zipWith (fun x y => x * n2 + y) r1 r2).zipIdx.take (j + 1) = (List.zipWith (fun x y => x * n2 + y) r1 r2).zipIdx.take j ++ [(g, j)] := by rw [List.take_add_one, hz]; rfl
          have hlen : (((List.zipWith (fun x y => x * n2 + y) r1 r2).zipIdx.take j).foldl (addW x.2) (itW st b p)).length ≤ n := by
            have := sub_len (b := List.range n) (hGj j (by omega)).1.nd fun y hy => by
              obtain ⟨z, hz, rfl⟩ := List.mem_map.mp hy
              obtain ⟨q, hq⟩ := List.mem_iff_getElem?.mp hz
              exact List.mem_range.mpr ((hGj j (by omega)).1.ok q z hq).1
            rw [List.length_range, List.length_map] at this
            exact this
          rw [et]
          simp only [List.foldl_append, List.foldl_cons, List.foldl_nil]
          revert hlen
          generalize ((List.zipWith (fun x y => x * n2 + y) r1 r2).zipIdx.take j).foldl (addW x.2) (itW st b p) = sh
          intro hlen
          simp? only [keys_pair, seen_val, rowS]
          unfold addW
          by_cases q : g ∈ sh.map (·.1)
          · simp? only [if_pos q, Option.isSome_some, Bool.xor_true, Bool.not_true]
            exact ⟨_, _, rfl⟩
          · have hv : valD (seenK n2 sh) (keyN [g / n2, g % n2]) = none := by rw [seen_val, if_neg q]
            simp? only [if_neg q, Option.isSome_none, Bool.xor_false, keys_pair, putD_new hv, seenK_len, waitD_len, sg_len, List.length_map]
            refine ⟨szLt (by omega), szL (by omega), szL (by decide), szLt (by omega), .d (.str (PL.sg [c])), .d (.tuple [.int ((g / n2 : Nat) : Int), .int ((g % n2 : Nat) : Int)]), ?_⟩
            rw [rowS_snoc hc]
            simp [waitD, seenK, rowS]
        · subst hρ
          refine hD _ ⟨t8, t9, ?_⟩
          rw [hturn, List.take_of_length_le (by rw [zipD_len, List.length_map, pairsD_len, List.length_zipIdx]; omega)]
      rintro ρ ⟨t8, t9, rfl⟩
      simp? only [PL.z1]
      refine ⟨n - (p + 1), by omega, p + 1, _, _, _, _, _, hLive', fun q y hq hy => ?_, rfl, rfl⟩
      obtain ⟨tt, ht⟩ := hpre
      by_cases z : q = p
      · subst z
        rw [← ht, List.getElem?_append_left hp, hx] at hy
        cases hy
        exact hnb
      · have hq' : q < (itW st b p).length := by omega
        rw [← ht, List.getElem?_append_left hq'] at hy
        exact hno q y (by omega) hy
    · rintro m ρ ⟨p, t5, t6, t7, t8, t9, hLive, hno, rfl, rfl⟩ hC
      have hp : ¬ p < (itW st b p).length := fun z => by have := (hC p rfl).mpr z; cases this
      exact hN _ ⟨_, _, _, _, _, _, _, _, .noone hLive hno (by omega), rfl⟩
  rintro ρ ⟨t5, t6, t7, t8, t9, sh1, sh2, x, hF, rfl⟩
  simp? only [PL.z1]
  exact hJ' _ hF
end
end C60

set_option Elab.async false
set_option linter.all false
set_option maxRecDepth 100000
namespace C60
open PySem L2 PL PM
abbrev sFirst : Stmt := top 16
abbrev sRing : Stmt := top 19
abbrev sTold : Stmt := top 20
abbrev sAhead : Stmt := top 21
def Two2 (m1 m2 : M) (n1 n2 : Nat) : Prop := MV m1 n1 ∧ MV m2 n2 ∧ m1.sg = m2.sg
def firstF : List T → (T → Prop) → Prop := fun ts P => ∃ (m1 m2 : M) (n1 n2 : Nat), ts = [.d m1.d, .d m2.d] ∧ Two2 m1 m2 n1 n2 ∧ ∀ o, First (pS m1 m2 n1 n2) (m1.b * n2 + m2.b) (badP m1 m2 n2) o → P (.d (rowO m1.sg o))
def waysD (l : List Nat) (sh : Its) : List D := sh.map fun x => rowS l x.2
theorem waysD_len (l : List Nat) (sh : Its) : (waysD l sh).length = sh.length := by simp [waysD]
section
variable {P : Program} {w : World} {K : PySem.W.Frag} {mg : Str → Option Value} {base : Heap}
theorem scFirst : FnScope ["one", "other", "pairs", "ways", "spot", "a", "b", "sign", "pair"] ["one", "other"] (defScope sFirst) := ⟨rfl, rfl, rfl, by decide +kernel, rfl, by decide +kernel, by decide +kernel⟩
set_option maxHeartbeats 1000000 in
theorem ok_first {f : Addr} {fd : FuncData} (F : Fun K "_law_first" "_law_first" sFirst f fd) (T : Ty2 mg) : FnG P w K mg base CX0 1 f fd ["one", "other"] (spP K urnBox 2 firstF) := by
  refine fnP F scFirst fun cdv A outer s H E hr ts Pq hl hφ => ?_
  have S := @scFirst
  have hu65 : (A.deeper (PyProof.Rows.envOfC "_law_first" (defScope sFirst) s.heap.objs.size f cdv)).units + 65 < cLine := by have := hr.un; omega
  have hu64 : (A.deeper (PyProof.Rows.envOfC "_law_first" (defScope sFirst) s.heap.objs.size f cdv)).units + 64 < cLine := hr.units
  obtain ⟨m1, m2, n1, n2, rfl, ⟨V1, V2, hsg⟩, hJ'⟩ := hφ
  refine ⟨_, (s_cons (s_par3 (i := 2) (j := 3) (l := 4) rfl S.nd (by decide) (by decide) (by decide) (b_cons (q_lst (a_cons (q_tup (a_cons (q_ix (q_al 0) (q_int)) (a_cons (q_ix (q_al 1) (q_int)) a_nil))) a_nil)) (b_cons (q_lst (a_cons (q_str) a_nil)) (b_cons (q_int) b_nil))) (by rfl))
      (s_cons (s_while PassesOwn.never (t_cmp o_lt op_lt (q_al 4) (q_callB c_len call_lenP (by rfl) T.len (by rfl) (a_cons (q_al 2) a_nil)) (nomark _)) (s_cons (s_asg (q_ix (q_al 2) (q_var 4)) (g_tup (n := 2) rfl (gs_cons (g_name (i := 5) S.nd) (gs_cons (g_name (i := 6) S.nd) gs_nil))))
      (s_cons (s_if (t_cmp o_ne (op_neD hu64) (q_cmp o_in (op_inP hu65) (q_al 5) (q_ix (q_al 0) (q_int)) (by rfl)) (q_cmp o_in (op_inP hu65) (q_al 6) (q_ix (q_al 1) (q_int)) (by rfl)) (nomark _)) (s_one (s_ret (q_ix (q_al 3) (q_var 4)))) s_nil)
      (s_cons (s_for PassesOwn.never rfl (i_zipSS (by rfl) T.zip (q_ix (q_al 0) (q_int)) (a_cons (q_ix (q_ix (q_al 0) (q_int)) (q_var 5)) (a_cons (q_ix (q_ix (q_al 1) (q_int)) (q_var 6)) a_nil))) (g_tup (n := 2) rfl (gs_cons (g_name (i := 7) S.nd) (gs_cons (g_name (i := 8) S.nd) gs_nil))) (s_one (s_if (t_cmp o_ni (op_niP hu65) (q_al 8) (q_al 2) (by rfl)) (s_cons (s_expr (q_app 2 (q_var 8)))
      (s_one (s_expr (q_app 3 (q_op o_add op_addP (q_ix (q_al 3) (q_var 4)) (q_al 7)))))) s_nil)))
      (s_one (s_set (i := 4) S.nd (q_op o_add op_addP (q_al 4) (q_int))))))))
      (s_one (s_ret (q_non))))), ?_⟩
  have T1 := V1.tab
  have T2 := V2.tab
  have b1 := V1.b
  have b2 := V2.b
  have hn : n1 * n2 ≤ 64 := Nat.mul_le_mul V1.n8 V2.n8
  rw [← hsg] at T2
  have hT : Tab (pS m1 m2 n1 n2) (n1 * n2) m1.sg.length := pst_tab T1 T2
  have hb : m1.b * n2 + m2.b < n1 * n2 := pair_lt b1 b2
  have hrow := fun c hc => pair_row (m1 := m1) (m2 := m2) (c := c) T1 T2 hc
  obtain ⟨d1, d2⟩ := pair_div (x := m1.b) b2
  have eb : PyData.tuple [.int (m1.b : Nat), .int (m2.b : Nat)] = pairD n2 (m1.b * n2 + m2.b) := by simp [pairD, nats, d1, d2]
  have hk := V1.sg.len
  simp only [startP, endsP, List.length_cons, List.length_nil, Nat.zero_add, Nat.reduceAdd, Nat.reduceSub, List.reduceReplicate, List.cons_append, List.nil_append]
  refine seq_to (fun ρ => ρ = [.d m1.d, .d m2.d, .l (pairsD n2 [m1.b * n2 + m2.b]), .l (waysD m1.sg [(m1.b * n2 + m2.b, [])]), .d (.int 0), .un, .un, .un, .un]) (fun DP hD => ?_) ?_
  · simp? only [M.d, eb]
    exact ⟨szL (by decide), szL (by decide), by decide, by decide, hD _ rfl⟩
  rintro ρ rfl
  clear eb d1 d2
  revert hT hb hrow hJ'
  generalize n1 * n2 = n at hn ⊢
  generalize m1.b * n2 + m2.b = b
  generalize pS m1 m2 n1 n2 = st
  intro hJ' hT hb hrow
  refine seq_toR (fun ρ => ∃ t5 t6 t7 t8 sh1 sh2 x, First st b (badP m1 m2 n2) none ∧ ρ = [.d m1.d, .d m2.d, sh1, sh2, x, t5, t6, t7, t8]) (fun N hN => ?_) ?_
  · refine whileT (fun m ρ => ∃ (p : Nat) (t5 t6 t7 t8 : PL.T), LiveW st b p ∧ (∀ q x, q < p → (itW st b p)[q]? = some x → ¬ badP m1 m2 n2 x.1) ∧ m = n - p ∧
      ρ = [.d m1.d, .d m2.d, .l (pairsD n2 ((itW st b p).map (·.1))), .l (waysD m1.sg (itW st b p)), .d (.int (p : Nat)), t5, t6, t7, t8]) (fun _ ρ c => ∀ p, ρ[4]? = some (.d (.int ((p : Nat) : Int))) → (c = true ↔ p < (itW st b p).length))
      ⟨n, 0, .un, .un, .un, .un, (fun q hq => by omega), (fun q x hq => by omega), by omega, rfl⟩ ?_ ?_ ?_
    · rintro m ρ ⟨p, t5, t6, t7, t8, hLive, hno, rfl, rfl⟩ R hR
      simp? only [pairsD_len, List.length_map]
      refine hR _ fun p' hp' => ?_
      have : p = p' := by
        simp at hp'
        omega
      subst this
      simp
    · rintro m ρ ⟨p, t5, t6, t7, t8, hLive, hno, rfl, rfl⟩ hC
      have hp : p < (itW st b p).length := (hC p rfl).mp rfl
      have hG := itW_going hT hb p hLive
      have hln := itW_len hT hb hLive
      obtain ⟨x, hx⟩ : ∃ x, (itW st b p)[p]? = some x := ⟨_, List.getElem?_eq_getElem hp⟩
      obtain ⟨hx1, hx2, hx3⟩ := hG.ok p x hx
      have hxl := row_len hG p x hx
      obtain ⟨r1, r2, e1, e2, l1, l2, g2, er⟩ := hrow x.1 hx1
      have hw : (pairsD n2 ((itW st b p).map (·.1)))[p]? = some (pairD n2 x.1) := pairsD_get (by simp [hx])
      have hwy : (waysD m1.sg (itW st b p))[p]? = some (rowS m1.sg x.2) := by simp [waysD, hx]
      refine seq_to (fun ρ => ρ = [.d m1.d, .d m2.d, .l (pairsD n2 ((itW st b p).map (·.1))), .l (waysD m1.sg (itW st b p)), .d (.int (p : Nat)), .d (.int ((x.1 / n2 : Nat) : Int)), .d (.int ((x.1 % n2 : Nat) : Int)), t7, t8]) (fun DP hD => ?_) ?_
      · simp? only [hw, pairD, nats]
        exact hD _ rfl
      rintro ρ rfl
      refine seq_if [.d m1.d, .d m2.d, .l (pairsD n2 ((itW st b p).map (·.1))), .l (waysD m1.sg (itW st b p)), .d (.int (p : Nat)), .d (.int ((x.1 / n2 : Nat) : Int)), .d (.int ((x.1 % n2 : Nat) : Int)), t7, t8] (fun c => (c = true ↔ badP m1 m2 n2 x.1)) (fun R hR => ?_) (fun h2 => ?_) fun h2 => ?_
      · simp? only [M.d, pIn, any_nats, Bool.false_xor, eqv_bb]
        refine ⟨shInt _, shNats _, shInt _, shNats _, shBool _, shBool _, hR _ ?_⟩
        simp [badP]
      · simp? only [hwy]
        exact hJ' _ (.found hLive hno (s := x.1) (w := x.2) hx (h2.mp rfl))
      have hnb : ¬ badP m1 m2 n2 x.1 := fun z => by have := h2.mpr z; cases this
      have hturn : itW st b (p + 1) = ((List.zipWith (fun x y => x * n2 + y) r1 r2).zipIdx).foldl (addW x.2) (itW st b p) := by
        show turnW _ _ _ = _
        unfold turnW
        simp [List.getD_eq_getElem?_getD, hx, er]
      have hrl : (List.zipWith (fun x y => x * n2 + y) r1 r2).length = m1.sg.length := by rw [hsg] at l1 ⊢; simp [l1, l2, hsg]
      have hLive' : LiveW st b (p + 1) := fun q hq => by
        by_cases z : q = p
        · subst z; exact hp
        · exact hLive q (by omega)
      have hpre := itW_pre hT hb hLive'
      have hGj : ∀ j, j ≤ m1.sg.length → Going st n m1.sg.length b p j (((List.zipWith (fun x y => x * n2 + y) r1 r2).zipIdx.take j).foldl (addW x.2) (itW st b p)) ∧ (((List.zipWith (fun x y => x * n2 + y) r1 r2).zipIdx.take j).foldl (addW x.2) (itW st b p))[p]? = some x := fun j => by
        induction j with
        | zero => exact fun _ => ⟨hG, hx⟩
        | succ j ih =>
          intro hj
          obtain ⟨i1, i2⟩ := ih (by omega)
          obtain ⟨g, hg⟩ : ∃ g, (List.zipWith (fun x y => x * n2 + y) r1 r2)[j]? = some g := ⟨_, List.getElem?_eq_getElem (by omega)⟩
          have hz : (List.zipWith (fun x y => x * n2 + y) r1 r2).zipIdx[j]? = some (g, j) := by rw [List.getElem?_zipIdx, hg]; simp
          have et : (List.zipWith (fun x y => x * n2 + y) r1 r2).zipIdx.take (j + 1) = (List.zipWith (fun x y => x * n2 + y) r1 r2).zipIdx.take j ++ [(g, j)] := by rw [List.take_add_one, hz]; rfl
          have hgx : nx st x.1 j = g := by rw [← row_get er j, List.getD_eq_getElem?_getD, hg]; rfl
          rw [et, List.foldl_append]
          obtain ⟨a1, a2⟩ := going_add hT i1 (s := x.1) (w := x.2) i2 (j := j) (by omega)
          rw [hgx] at a1 a2
          exact ⟨a1, by
            obtain ⟨t, ht⟩ := a2
            show (addW x.2 _ (g, j))[p]? = _
            rw [← ht, List.getElem?_append_left (List.getElem?_eq_some_iff.mp i2).1]
            exact i2⟩
      -- the rows behind
      refine seq_to (fun ρ => ∃ t7 t8 : PL.T, ρ = [.d m1.d, .d m2.d, .l (pairsD n2 ((itW st b (p + 1)).map (·.1))), .l (waysD m1.sg (itW st b (p + 1))), .d (.int (p : Nat)), .d (.int ((x.1 / n2 : Nat) : Int)), .d (.int ((x.1 % n2 : Nat) : Int)), t7, t8]) (fun DP hD => ?_) ?_
      · refine forT (zipD (m1.sg.map fun c => .str (PL.sg [c])) (pairsD n2 (List.zipWith (fun x y => x * n2 + y) r1 r2))) [.d m1.d, .d m2.d, .l (pairsD n2 ((itW st b p).map (·.1))), .l (waysD m1.sg (itW st b p)), .d (.int (p : Nat)), .d (.int ((x.1 / n2 : Nat) : Int)), .d (.int ((x.1 % n2 : Nat) : Int)), t7, t8]
          (fun j ρ => ∃ t7 t8 : PL.T, ρ = [.d m1.d, .d m2.d, .l (pairsD n2 ((((List.zipWith (fun x y => x * n2 + y) r1 r2).zipIdx.take j).foldl (addW x.2) (itW st b p)).map (·.1))), .l (waysD m1.sg (((List.zipWith (fun x y => x * n2 + y) r1 r2).zipIdx.take j).foldl (addW x.2) (itW st b p))), .d (.int (p : Nat)), .d (.int ((x.1 / n2 : Nat) : Int)), .d (.int ((x.1 % n2 : Nat) : Int)), t7, t8])
          (fun R hR => ?_) ⟨t7, t8, rfl⟩ (fun j d ρ hd ⟨t7, t8, hρ⟩ => ?_) (fun ρ ⟨t7, t8, hρ⟩ => ?_)
        · simp? only [M.d, rows_get e1, rows_get e2, sg_signs, zip_nats (n1 := n1) g2]
          exact hR
        · subst hρ
          have hj : j < m1.sg.length := by
            have := (List.getElem?_eq_some_iff.mp hd).1
            rw [zipD_len, List.length_map] at this
            omega
          obtain ⟨c, hc⟩ : ∃ c, m1.sg[j]? = some c := ⟨_, List.getElem?_eq_getElem hj⟩
          obtain ⟨g, hg⟩ : ∃ g, (List.zipWith (fun x y => x * n2 + y) r1 r2)[j]? = some g := ⟨_, List.getElem?_eq_getElem (by omega)⟩
          have ed : (zipD (m1.sg.map fun c => PyData.str (PL.sg [c])) (pairsD n2 (List.zipWith (fun x y => x * n2 + y) r1 r2)))[j]? = some (.tuple [.str (PL.sg [c]), pairD n2 g]) := zipD_get (by simp [hc]) (pairsD_get hg)
          rw [ed] at hd
          cases hd
          have hz : (List.zipWith (fun x y => x * n2 + y) r1 r2).zipIdx[j]? = some (g, j) := by rw [List.getElem?_zipIdx, hg]; simp
          have et : (List.zipWith (fun x y => x * n2 + y) r1 r2).zipIdx.take (j + 1) = (List.zipWith (fun x y => x * n2 + y) r1 r2).zipIdx.take j ++ [(g, j)] := by rw [List.take_add_one, hz]; rfl
          have hlen : (((List.zipWith (fun x y => x * n2 + y) r1 r2).zipIdx.take j).foldl (addW x.2) (itW st b p)).length ≤ n := by
            have := sub_len (b := List.range n) (hGj j (by omega)).1.nd fun y hy => by
              obtain ⟨z, hz, rfl⟩ := List.mem_map.mp hy
              obtain ⟨q, hq⟩ := List.mem_iff_getElem?.mp hz
              exact List.mem_range.mpr ((hGj j (by omega)).1.ok q z hq).1
            rw [List.length_range, List.length_map] at this
            exact this
          rw [et]
          simp only [List.foldl_append, List.foldl_cons, List.foldl_nil]
          have hshp := (hGj j (by omega)).2
          revert hlen hshp
          generalize ((List.zipWith (fun x y => x * n2 + y) r1 r2).zipIdx.take j).foldl (addW x.2) (itW st b p) = sh
          intro hlen hshp
          have hwj : (waysD m1.sg sh)[p]? = some (rowS m1.sg x.2) := by simp [waysD, hshp]
          simp? only [pIn, any_pairs, Bool.true_xor]
          refine ⟨pairD_lay.shaped, pairsD_lay.shaped, ?_⟩
          unfold addW
          by_cases q : g ∈ sh.map (·.1)
          · simp? only [q, if_pos q, decide_true, Bool.not_true]
            exact ⟨_, _, rfl⟩
          · simp? only [q, if_neg q, decide_false, Bool.not_false, pairsD_len, waysD_len, List.length_map, hwj, rowS, sg_len]
            refine ⟨szLt (by omega), szL (by omega), szLt (by omega), .d (.str (PL.sg [c])), .d (pairD n2 g), ?_⟩
            rw [rowS_snoc hc]
            simp [pairsD, waysD, rowS]
        · subst hρ
          refine hD _ ⟨t7, t8, ?_⟩
          rw [hturn, List.take_of_length_le (by rw [zipD_len, List.length_map, pairsD_len, List.length_zipIdx]; omega)]
      rintro ρ ⟨t7, t8, rfl⟩
      simp? only [PL.z1]
      refine ⟨n - (p + 1), by omega, p + 1, _, _, _, _, hLive', fun q y hq hy => ?_, rfl, rfl⟩
      obtain ⟨tt, ht⟩ := hpre
      by_cases z : q = p
      · subst z
        rw [← ht, List.getElem?_append_left hp, hx] at hy
        cases hy
        exact hnb
      · have hq' : q < (itW st b p).length := by omega
        rw [← ht, List.getElem?_append_left hq'] at hy
        exact hno q y (by omega) hy
    · rintro m ρ ⟨p, t5, t6, t7, t8, hLive, hno, rfl, rfl⟩ hC
      have hp : ¬ p < (itW st b p).length := fun z => by have := (hC p rfl).mpr z; cases this
      exact hN _ ⟨_, _, _, _, _, _, _, .noone hLive hno (by omega), rfl⟩
  rintro ρ ⟨t5, t6, t7, t8, sh1, sh2, x, hF, rfl⟩
  simp? only [PL.z1]
  exact hJ' _ hF
/-! ### rings -/
def ringF : List T → (T → Prop) → Prop := fun ts P => ∃ (u : Addr) (l : List Nat) (n : Nat), ts = [.bx u, .d (.str (sg l)), .d (.int (n : Nat))] ∧ Lett l ∧ (1 ≤ n ∧ n ≤ 8) ∧ ∀ m : M, m.sg = l → MV m n → P (.d m.d)
theorem scRing : FnScope ["urn", "letters", "many", "steps", "stand", "ways", "ends", "sign"] ["urn", "letters", "many"] (defScope sRing) := ⟨rfl, rfl, rfl, by decide +kernel, rfl, by decide +kernel, by decide +kernel⟩
theorem ok_ring {f : Addr} {fd : FuncData} (F : Fun K "_law_ring" "_law_ring" sRing f fd) (T : Ty2 mg) (G : GTake P w K mg base) : FnG P w K mg base CX0 2 f fd ["urn", "letters", "many"] (spP K urnBox 3 ringF) := by
  refine fnP F scRing fun cdv A outer s H E hr ts Pq hl hφ => ?_
  have S := @scRing
  have hu64 : (A.deeper (PyProof.Rows.envOfC "_law_ring" (defScope sRing) s.heap.objs.size f cdv)).units + 64 < cLine := hr.units
  obtain ⟨u, l, many, rfl, hL, ⟨m1, m2⟩, hP⟩ := hφ
  refine ⟨_, (s_cons (s_set (i := 3) S.nd (q_lst a_nil))
      (s_cons (s_for PassesOwn.never rfl (i_range1 (by rfl) T.range (a_cons (q_var 2) a_nil)) (g_name (i := 4) S.nd) (s_cons (s_set (i := 5) S.nd (q_callTy c_tupOf call_tupP (by rfl) T.tuple (by rfl) (a_cons (q_lc (own := [("sign", 7)]) rfl S.nd (i_str (q_var 1)) (blkOk_by (by kernel_rfl)) (fun _ _ _ _ _ => (gv_name (i := 7) S.nd)) (fun _ _ _ _ _ => ts_nil) (fun _ _ _ _ _ => (q_op o_mod op_modN (q_callTy c_int call_intP (by rfl) T.int (by rfl) (a_cons (q_op o_add op_addP (q_al 4) (q_int)) a_nil)) (q_al 2)))) a_nil)))
      (s_one (s_expr (q_app 3 (q_if (t_cmp o_gt op_gt (q_cU (i := 0) G._law_take (hr.mono (by decide)) (by rfl) (pv 0) (a_cons (q_int) a_nil)) (q_int) (nomark _)) (q_var 5) (q_op o_add op_addP (q_sl (q_al 5) po_no (po_at (q_int))) (q_op o_mul op_mulP (q_tup (a_cons (q_var 4) a_nil)) (q_op o_sub op_sub (q_callB c_len call_lenP (by rfl) T.len (by rfl) (a_cons (q_al 1) a_nil)) (q_int))))))))))
      (s_cons (s_set (i := 6) S.nd (q_callTy c_tupOf call_tupP (by rfl) T.tuple (by rfl) (a_cons (q_lc (own := [("stand", 4)]) rfl S.nd (i_range1 (by rfl) T.range (a_cons (q_var 2) a_nil)) (blkOk_by (by kernel_rfl)) (fun _ _ _ _ _ => (gv_name (i := 4) S.nd)) (fun _ _ _ _ _ => ts_one ((w_or (t_cmp o_eq (op_eqD hu64) (q_al 4) (q_op o_sub op_sub (q_al 2) (q_int)) (nomark _)) (w_or1 (t_cmp o_eq (op_eqD hu64) (q_cU (i := 0) G._law_take (hr.mono (by decide)) (by rfl) (pv 0) (a_cons (q_int) a_nil)) (q_int) (nomark _)))).pt)) (fun _ _ _ _ _ => (q_var 4))) a_nil)))
      (s_one (s_ret (q_tup (a_cons (q_var 1) (a_cons (q_int) (a_cons (q_callTy c_tupOf call_tupP (by rfl) T.tuple (by rfl) (a_cons (q_al 3) a_nil)) (a_cons (q_var 6) a_nil)))))))))), ?_⟩
  have hll := hL.len
  have hl0 : 0 < l.length := List.length_pos_iff.mpr hL.ne
  simp only [startP, endsP, List.length_cons, List.length_nil, Nat.zero_add, Nat.reduceAdd, Nat.reduceSub, List.reduceReplicate, List.cons_append, List.nil_append]
  refine seq_to (fun ρ => ρ = [.bx u, .d (.str (sg l)), .d (.int (many : Nat)), .l [], .un, .un, .un, .un]) (fun DP hD => ?_) ?_
  · simp? only [PL.z1]
    exact ⟨szL (by decide), hD _ rfl⟩
  rintro ρ rfl
  refine seq_toR (fun ρ => ∃ (st : List (List Nat)) (t4 t5 t7 : PL.T), st.length = many ∧ (∀ r ∈ st, r.length = l.length ∧ ∀ g ∈ r, g < many) ∧ t4.bare ∧ t7.bare ∧ ρ = [.bx u, .d (.str (sg l)), .d (.int (many : Nat)), .l (rowsD st), t4, t5, .un, t7]) (fun N hN => ?_) ?_
  · refine forT (rangeD 0 many) [.bx u, .d (.str (sg l)), .d (.int (many : Nat)), .l [], .un, .un, .un, .un]
      (fun j ρ => ∃ (st : List (List Nat)) (t4 t5 t7 : PL.T), st.length = j ∧ (∀ r ∈ st, r.length = l.length ∧ ∀ g ∈ r, g < many) ∧ t4.bare ∧ t7.bare ∧ ρ = [.bx u, .d (.str (sg l)), .d (.int (many : Nat)), .l (rowsD st), t4, t5, .un, t7]) (fun R hR => ?_) ⟨[], .un, .un, .un, rfl, (fun r z => nomatch z), trivial, trivial, rfl⟩ (fun j d ρ hd ⟨st, t4, t5, t7, h1, h2, h4, h7, hρ⟩ => ?_) (fun ρ ⟨st, t4, t5, t7, h1, h2, h4, h7, hρ⟩ => ?_)
    · simp? only [PL.z1]
      refine ⟨⟨by omega, by omega⟩, ?_⟩
      simpa using hR
    · subst hρ
      have hj : j < many := by have := (List.getElem?_eq_some_iff.mp hd).1; rwa [rangeD_len] at this
      rw [nats_range hj] at hd
      cases hd
      refine ⟨⟨by simp, trivial⟩, ?_⟩
      have e1 : (((j : Nat) : Int) + 1).fmod ((many : Nat) : Int) = (((j + 1) % many : Nat) : Int) := by
        rw [Int.fmod_eq_emod_of_nonneg _ (by omega)]
        rfl
      refine seq_to (fun ρ => ∃ t7 : PL.T, t7.bare ∧ ρ = [.bx u, .d (.str (sg l)), .d (.int (many : Nat)), .l (rowsD st), .d (.int (j : Nat)), .d (.tuple (nats (List.replicate l.length ((j + 1) % many)))), .un, t7]) (fun DP hD => ?_) ?_
      · simp? only [PL.z1]
        refine lc_mapT (l.map fun c => .str (sg [c])) [.bx u, .d (.str (sg l)), .d (.int (many : Nat)), .l (rowsD st), .d (.int (j : Nat)), t5, .un, t7] (nats (List.replicate l.length ((j + 1) % many))) (fun R hR => ?_) (barePl1 (t := t7) rfl h7) (by simp [nats]) (by rw [List.length_map]; exact szL (by omega)) (fun i d o hd ho R hR => ?_) ?_
        · simp? only [sg_signs]
          exact hR
        · have hi : i < l.length := by have := (List.getElem?_eq_some_iff.mp hd).1; rwa [List.length_map] at this
          rw [nats_get (n := (j + 1) % many) (by simp [hi])] at ho
          cases ho
          simp? only [wipeP, e1]
          exact ⟨by omega, hR _ _ rfl rfl⟩
        · simp? only [PL.z1]
          exact hD _ ⟨_, h7, rfl⟩
      rintro ρ ⟨t7, h7, rfl⟩
      have key : ∀ r : List Nat, r.length = l.length → (∀ g ∈ r, g < many) → (st ++ [r]).length = j + 1 ∧ ∀ r' ∈ st ++ [r], r'.length = l.length ∧ ∀ g ∈ r', g < many := fun r a b => ⟨by simp [h1], fun r' hr' => by
        rcases List.mem_append.mp hr' with z | z
        · exact h2 r' z
        · rw [List.mem_singleton] at z
          rw [z]
          exact ⟨a, b⟩⟩
      simp? only [PL.z1]
      refine ⟨u, 3, rfl, ⟨by decide, by decide⟩, fun r r0 r1 => ?_⟩
      have em : (j + 1) % many < many := Nat.mod_lt _ (by omega)
      have e2 : ((l.length : Nat) : Int) - 1 = ((l.length - 1 : Nat) : Int) := by omega
      refine ite2 (fun _ => ?_) (fun _ => ?_)
      · simp? only [rows_len]
        obtain ⟨k1, k2⟩ := key (List.replicate l.length ((j + 1) % many)) (by simp) fun g hg => by rw [(List.mem_replicate.mp hg).2]; exact em
        exact ⟨szLt (by omega), st ++ [List.replicate l.length ((j + 1) % many)], .d (.int (j : Nat)), .d (.tuple (nats (List.replicate l.length ((j + 1) % many)))), t7, k1, k2, trivial, h7, by simp [rowsD]⟩
      · have er : List.replicate (((l.length - 1 : Nat) : Int)).toNat [PyData.int ((j : Nat) : Int)] = List.replicate (l.length - 1) [PyData.int ((j : Nat) : Int)] := by rw [Int.toNat_natCast]
        have ec : cutD (nats (List.replicate l.length ((j + 1) % many))) none (some 1) ++ (List.replicate (l.length - 1) [PyData.int ((j : Nat) : Int)]).flatten = nats ((j + 1) % many :: List.replicate (l.length - 1) j) := by
          rw [show (1 : Int) = ((1 : Nat) : Int) from rfl, cutD_to, nats_take]
          have a1 : (List.replicate l.length ((j + 1) % many)).take 1 = [(j + 1) % many] := by
            rw [List.take_replicate, Nat.min_eq_left hl0]
            rfl
          have a2 : ∀ k : Nat, (List.replicate k [PyData.int ((j : Nat) : Int)]).flatten = nats (List.replicate k j) := fun k => by
            induction k with
            | zero => rfl
            | succ k ih => rw [List.replicate_succ, List.flatten_cons, ih]; rfl
          rw [a1, a2]
          rfl
        have elen : (cutD (nats (List.replicate l.length ((j + 1) % many))) none (some 1)).length + (List.replicate (l.length - 1) [PyData.int ((j : Nat) : Int)]).flatten.length < 10000 := by
          rw [← List.length_append, ec, nats_len]
          simp
          omega
        simp? only [rows_len, sg_len, e2, er, ec]
        obtain ⟨k1, k2⟩ := key ((j + 1) % many :: List.replicate (l.length - 1) j) (by simp; omega) fun g hg => by
          rcases List.mem_cons.mp hg with z | z
          · rw [z]; exact em
          · rw [(List.mem_replicate.mp z).2]; exact hj
        exact ⟨szL (by decide), szL (by omega), ⟨by omega, by omega⟩, szL elen, szLt (by omega), st ++ [(j + 1) % many :: List.replicate (l.length - 1) j], .d (.int (j : Nat)), .d (.tuple (nats (List.replicate l.length ((j + 1) % many)))), t7, k1, k2, trivial, h7, by simp [rowsD]⟩
    · subst hρ
      rw [rangeD_len] at h1
      exact hN _ ⟨_, _, _, _, h1, h2, h4, h7, rfl⟩
  rintro ρ ⟨st, t4, t5, t7, h1, h2, h4, h7, rfl⟩
  refine seq_to (fun ρ => ∃ es : List Nat, es.length ≤ many ∧ (∀ e ∈ es, e < many) ∧ ρ = [.bx u, .d (.str (sg l)), .d (.int (many : Nat)), .l (rowsD st), t4, t5, .d (.tuple (nats es)), t7]) (fun DP hD => ?_) ?_
  · simp? only [PL.z1]
    refine lc_sub many [.bx u, .d (.str (sg l)), .d (.int (many : Nat)), .l (rowsD st), t4, t5, .un, t7] (fun R hR => ?_) (barePl1 rfl h4) (by omega) (fun i hi R R0 hR hR0 => ?_) fun es e1 e2 e3 => ?_
    · simp? only [PL.z1]
      refine ⟨⟨by omega, by omega⟩, ?_⟩
      simpa using hR
    · simp? only [wipeP]
      refine ⟨shInt _, shInt _, ?_⟩
      cases PyData.eqv (.int ((i : Nat) : Int)) (.int (((many : Nat) : Int) - 1))
      · simp? only [PL.z1]
        refine ⟨u, 9, rfl, ⟨by decide, by decide⟩, fun r r0 r1 => ⟨shInt _, shInt _, ite2 (fun _ => ?_) (fun _ => ?_)⟩⟩
        · exact hR _ rfl
        · exact hR0 _ rfl
      · simp? only [PL.z1]
        exact hR _ rfl
    · simp? only [PL.z1]
      exact hD _ ⟨es, e1, e2, rfl⟩
  rintro ρ ⟨es, e1, e2, rfl⟩
  simp? only [PL.z1]
  refine ⟨szL (by decide), hP ⟨l, 0, st, es⟩ rfl ⟨⟨h1, fun s hs => ?_⟩, by show 0 < many; omega, e2, e1, by omega, hL⟩⟩
  have hs' : s < st.length := by omega
  exact ⟨st[s], List.getElem?_eq_getElem hs', h2 _ (List.getElem_mem hs')⟩
end
end C60

set_option Elab.async false
set_option linter.all false
set_option maxRecDepth 100000
namespace C60
open PySem L2 PL PM
abbrev sIsRight : Stmt := top 22
/-! ### the least row that parts two machines -/
def parts2 (m1 m2 : M) (v : List Nat) : Prop := ¬ (rn m1.st m1.b v ∈ m1.en ↔ rn m2.st m2.b v ∈ m2.en)
def Part (m1 m2 : M) : Option (List Nat) → Prop
  | none => ∀ v : List Nat, (∀ i ∈ v, i < m1.sg.length) → ¬ parts2 m1 m2 v
  | some w => parts2 m1 m2 w ∧ (∀ i ∈ w, i < m1.sg.length) ∧ ∀ v : List Nat, (∀ i ∈ v, i < m1.sg.length) → parts2 m1 m2 v → sle w v
theorem parts_bad {m1 m2 : M} {n1 n2 : Nat} (h : Two2 m1 m2 n1 n2) {v : List Nat} (hv : ∀ i ∈ v, i < m1.sg.length) : badP m1 m2 n2 (rn (pS m1 m2 n1 n2) (m1.b * n2 + m2.b) v) ↔ parts2 m1 m2 v := by
  obtain ⟨V1, V2, hs⟩ := h
  have T2 : Tab m2.st n2 m1.sg.length := by rw [hs]; exact V2.tab
  rw [pst_rn V1.tab T2 V1.b V2.b hv]
  obtain ⟨d1, d2⟩ := pair_div (x := rn m1.st m1.b v) (T2.rn V2.b hv)
  unfold badP parts2
  rw [d1, d2]
theorem part_of {m1 m2 : M} {n1 n2 : Nat} (h : Two2 m1 m2 n1 n2) {o : Option (List Nat)} (f : First (pS m1 m2 n1 n2) (m1.b * n2 + m2.b) (badP m1 m2 n2) o) : Part m1 m2 o := by
  obtain ⟨V1, V2, hs⟩ := id h
  have T2 : Tab m2.st n2 m1.sg.length := by rw [hs]; exact V2.tab
  have hT : Tab (pS m1 m2 n1 n2) (n1 * n2) m1.sg.length := pst_tab V1.tab T2
  have hb : m1.b * n2 + m2.b < n1 * n2 := pair_lt V1.b V2.b
  cases o with
  | none => exact fun v hv q => First.none_ hT hb f v hv ((parts_bad h hv).mpr q)
  | some w =>
    obtain ⟨a, b, c⟩ := First.some_ hT hb f
    exact ⟨(parts_bad h b).mp a, b, fun v hv q => c v hv ((parts_bad h hv).mpr q)⟩
theorem part_eq {m1 m2 : M} : ∀ {o o' : Option (List Nat)}, Part m1 m2 o → Part m1 m2 o' → o = o'
  | none, none, _, _ => rfl
  | none, some w, h, g => (h w g.2.1 g.1).elim
  | some w, none, h, g => (g w h.2.1 h.1).elim
  | some w, some w', h, g => congrArg some (sle_anti (h.2.2 w' g.2.1 g.1) (g.2.2 w h.2.1 h.1))
theorem part_symm {m1 m2 : M} (hs : m1.sg = m2.sg) : ∀ {o : Option (List Nat)}, Part m1 m2 o → Part m2 m1 o
  | none, h => fun v hv q => h v (by rw [hs]; exact hv) fun z => q z.symm
  | some w, h => ⟨fun z => h.1 z.symm, by rw [← hs]; exact h.2.1, fun v hv q => h.2.2 v (by rw [hs]; exact hv) fun z => q z.symm⟩
theorem part_short {m1 m2 : M} {n1 n2 : Nat} (h : Two2 m1 m2 n1 n2) {w : List Nat} (p : Part m1 m2 (some w)) : w.length < n1 + n2 := by
  obtain ⟨V1, V2, hs⟩ := h
  have T2 : Tab m2.st n2 m1.sg.length := by rw [hs]; exact V2.tab
  obtain ⟨v, hv, hk, hp⟩ := parts_soon V1.tab T2 V1.b V2.b p.2.1 p.1
  have := p.2.2 v hk hp
  rcases this with e | e
  · rw [e]; exact hv
  · unfold slt at e
    omega
theorem ixs_row {l : List Nat} (nd : l.Nodup) : ∀ {w : List Nat}, (∀ i ∈ w, i < l.length) → ixs l (w.map fun i => l.getD i 0) = w
  | [], _ => rfl
  | i :: w, h => by
    have ih := ixs_row nd (w := w) fun j hj => h j (List.mem_cons_of_mem _ hj)
    have hi := h i List.mem_cons_self
    unfold ixs at ih ⊢
    rw [List.map_cons, List.map_cons, ih]
    rw [List.getD_eq_getElem?_getD, List.getElem?_eq_getElem hi, Option.getD_some, ixOf_nodup nd (List.getElem?_eq_getElem hi)]
    rfl
theorem row_mem {l : List Nat} {w : List Nat} (h : ∀ i ∈ w, i < l.length) : ∀ c ∈ w.map (fun i => l.getD i 0), c ∈ l := fun c hc => by
  obtain ⟨i, hi, rfl⟩ := List.mem_map.mp hc
  have := h i hi
  rw [List.getD_eq_getElem?_getD, List.getElem?_eq_getElem this]
  exact List.getElem_mem _
theorem row_inj {l : List Nat} (nd : l.Nodup) {v w : List Nat} (hv : ∀ i ∈ v, i < l.length) (hw : ∀ i ∈ w, i < l.length) (h : v.map (fun i => l.getD i 0) = w.map fun i => l.getD i 0) : v = w := by
  rw [← ixs_row nd hv, ← ixs_row nd hw, h]
/-! ### rows of a length, in order -/
theorem words_ord (k : Nat) : ∀ t, (words k t).Pairwise lexlt
  | 0 => List.pairwise_singleton _ _
  | t + 1 => by
    have ih := words_ord k t
    unfold words
    rw [List.pairwise_flatMap]
    refine ⟨fun w _ => List.pairwise_map.mpr (List.pairwise_lt_range.imp fun h => lexlt_last h), ih.imp_of_mem fun {a b} ha hb h x hx y hy => ?_⟩
    obtain ⟨i, _, rfl⟩ := List.mem_map.mp hx
    obtain ⟨j, _, rfl⟩ := List.mem_map.mp hy
    exact lexlt_more i j (by rw [(mem_words.mp ha).1, (mem_words.mp hb).1]) h
theorem words_count (k : Nat) : ∀ t, (words k t).length = k ^ t
  | 0 => rfl
  | t + 1 => by
    unfold words
    rw [len_const (c := k) fun x => by simp, words_count k t, Nat.pow_succ]
theorem words_few {k t : Nat} (hk : k ≤ 5) (ht : t ≤ 5) : (words k t).length ≤ 3125 := by
  rw [words_count]
  exact Nat.le_trans (Nat.pow_le_pow_left hk t) (Nat.le_trans (Nat.pow_le_pow_right (by decide) ht) (by decide))
/-! ### one text, one machine -/
theorem mach_back {c1 c2 : M} {n1 n2 : Nat} (V1 : MV c1 n1) (V2 : MV c2 n2) (hs : c1.sg = c2.sg) (hb : c1.b = c2.b) (h : c1.d.shown = c2.d.shown) : c1 = c2 := by
  have key : ∀ {c : M} {n : Nat}, MV c n → (∀ r ∈ c.st, ∀ x ∈ r, x < 10) ∧ (∀ x ∈ c.en, x < 10) := fun {c n} V => ⟨fun r hr x hx => by
    obtain ⟨s, hs⟩ := List.mem_iff_getElem?.mp hr
    have hsl : s < n := by have := (List.getElem?_eq_some_iff.mp hs).1; rw [V.tab.len] at this; exact this
    obtain ⟨r', e, _, g⟩ := V.tab.row s hsl
    rw [hs] at e
    cases e
    have := g x hx
    have := V.n8
    omega, fun x hx => by have := V.en x hx; have := V.n8; omega⟩
  obtain ⟨a1, b1⟩ := key V1
  obtain ⟨a2, b2⟩ := key V2
  have form : ∀ {c : M} {n : Nat}, MV c n → tl c.d = 40 :: (tl (.str (sg c.sg)) ++ (44 :: 32 :: (tl (.int (c.b : Nat)) ++ (44 :: 32 :: (tupL (c.st.map rowT) ++ ([44, 32] ++ (rowT c.en ++ [41]))))))) := fun {c n} V => by
    obtain ⟨a, b⟩ := key V
    have e1 : tl (.tuple (rowsD c.st)) = tupL (c.st.map rowT) := by
      rw [tl_tup]
      unfold rowsD
      rw [List.map_map]
      congr 1
      exact List.map_congr_left fun r hr => tl_nats (a r hr)
    show tl (.tuple [.str (sg c.sg), .int (c.b : Nat), .tuple (rowsD c.st), .tuple (nats c.en)]) = _
    rw [tl_tup]
    show tupL [tl (.str (sg c.sg)), tl (.int (c.b : Nat)), tl (.tuple (rowsD c.st)), tl (.tuple (nats c.en))] = _
    rw [e1, tl_nats b]
    simp [tupL, jl]
  have e := shown_tl h
  rw [form V1, form V2, hs, hb] at e
  injection e with _ e
  have e := List.append_cancel_left e
  injection e with _ e
  injection e with _ e
  have e := List.append_cancel_left e
  injection e with _ e
  injection e with _ e
  obtain ⟨q1, q2⟩ := table_back a1 a2 b1 b2 e
  cases c1
  cases c2
  simp_all
theorem sm_row {l w : List Nat} (hL : Lett l) (hw : ∀ i ∈ w, i < l.length) (hl : w.length ≤ 40) : Sm 1 40 (rowS l w) :=
  sm_str (sg_ok fun c hc => hL.ok c (row_mem hw c hc)) (by rw [sg_len, List.length_map]; exact hl)
def toldF : List T → (T → Prop) → Prop := fun ts P => ∃ (m1 m2 : M) (n1 n2 : Nat) (na : Bool), ts = [.d m1.d, .d m2.d, .d (.bool na)] ∧ MV m1 n1 ∧ MV m2 n2 ∧ (m1.sg ≠ m2.sg → P (.l [.str "unfit", .bool true])) ∧
  (m1.sg = m2.sg → ∀ o, Part m1 m2 o → P (.l [.str "told", rowO m1.sg o]))
def aheadF : List T → (T → Prop) → Prop := fun ts P => ∃ (m1 m2 : M) (n1 n2 : Nat) (w : List Nat), ts = [.d m1.d, .d m2.d, .d (rowS m1.sg w)] ∧ Two2 m1 m2 n1 n2 ∧ Part m1 m2 (some w) ∧ w.length ≤ 4 ∧ P (.d (.bool true))
def isRightF : List T → (T → Prop) → Prop := fun ts P => ∃ (m1 m2 : M) (n1 n2 : Nat) (na : Bool), ts = [.d m1.d, .d m2.d, .d (.bool na)] ∧ Two2 m1 m2 n1 n2 ∧ P (.d (.bool true))
section
variable {P : Program} {w : World} {K : PySem.W.Frag} {mg : Str → Option Value} {base : Heap}
structure GTold (P : Program) (w : World) (K : PySem.W.Frag) (mg : Str → Option Value) (base : Heap) (AU : Addr) : Prop where
  alike_machines : CalX P w K mg base urnBox 2 "alike_machines" ["one", "other"] 2 (alikeX AU)
  alike_machines_k_other_one : CalKX P w K mg base urnBox 2 "alike_machines" ["one", "other"] 2 (alikeX AU) ["other", "one"] 0 [1, 0]
theorem scTold : FnScope ["one", "other", "is_named", "refused"] ["one", "other", "is_named"] (defScope sTold) := ⟨rfl, rfl, rfl, by decide +kernel, rfl, by decide +kernel, by decide +kernel⟩
theorem ok_told {AUnfit AChainError : Addr} {f : Addr} {fd : FuncData} (F : Fun K "_law_told" "_law_told" sTold f fd) (Z : Errs P K mg AUnfit AChainError) (G : GTold P w K mg base AUnfit) : FnG P w K mg base CX0 3 f fd ["one", "other", "is_named"] (spP K urnBox 3 toldF) := by
  refine fnP F scTold fun cdv A outer s H E hr ts Pq hl hφ => ?_
  have S := @scTold
  obtain ⟨m1, m2, n1, n2, na, rfl, V1, V2, hU, hJ⟩ := hφ
  refine ⟨_, (s_one (s_try (i := 3) (fun _ _ => True.intro) rfl rfl S.nd rfl rfl (fun W pn xe G0 F0 ω tk bw hpo =>
      (s_one (s_ret (q_lst (a_cons (q_str) (a_cons (q_if (t_val (q_var 2)) (q_xK0 (G.alike_machines_k_other_one.to rfl) (hr.mono (by decide)) (by rfl) tk bw (k_cons (q_var 1) (k_cons (q_var 0) k_nil))) (q_xF (G.alike_machines.to rfl) (hr.mono (by decide)) (by rfl) tk bw (a_cons (q_var 0) (a_cons (q_var 1) a_nil)))) a_nil))))))
      (.cons (cl := ⟨.ref AUnfit, fun e => e.c = .ref AUnfit ∧ e.fs = none, _⟩) ⟨by rfl, by decide, .inl Z.g_Unfit⟩ (fun a oe d pn e G0 F0 hz hf hx hok =>
        (s_one (s_ret (q_lst (a_cons (q_str) (a_cons ((q_and (q_isX (b := true) hok.1 Z.x_Unfit hx hz hf Z.n_isinstance (pv 3) (pe_glob (v := .ref AChainError) (by rfl) Z.g_ChainError rfl) (fun _ h => h) Z.k_Unfit_ChainError (by rfl)) (q_one (q_isX (b := true) hok.1 Z.x_Unfit hx hz hf Z.n_isinstance (pv 3) (pe_bltn (v := .ty "ValueError") (by rfl) Z.n_ValueError (by first | rfl | kernel_rfl) rfl) (fun _ h => h) Z.k_Unfit_ValueError (by rfl))))) a_nil))))))
        .nil))), ?_⟩
  have hn : n1 * n2 ≤ 64 := Nat.mul_le_mul V1.n8 V2.n8
  simp? only [M.d, ite_self]
  refine ⟨m1, m2, n1, n2, rfl, ⟨V1.tab, V1.b, V1.sg⟩, ⟨V2.tab, V2.b, V2.sg⟩, hn, fun hne => ?_, fun he o ho => ?_⟩
  · exact .inl ⟨Z.e_Unfit_Unfit, ⟨rfl, rfl⟩, fun _ => ⟨by simp [sizeLine_eq], hU hne⟩⟩
  · exact ⟨by simp [sizeLine_eq], hJ he o (part_of ⟨V1, V2, he⟩ ho)⟩
structure GAhead (P : Program) (w : World) (K : PySem.W.Frag) (mg : Str → Option Value) (base : Heap) : Prop where
  _law_takes : Cal P w K mg base urnBox 1 "_law_takes" ["machine", "row"] 2 takesF
theorem scAhead : FnScope ["one", "other", "row", "layer", "turn", "fresh", "own", "sign"] ["one", "other", "row"] (defScope sAhead) := ⟨rfl, rfl, rfl, by decide +kernel, rfl, by decide +kernel, by decide +kernel⟩
set_option maxHeartbeats 1000000 in
theorem ok_ahead {f : Addr} {fd : FuncData} (F : Fun K "_law_are_ahead" "_law_are_ahead" sAhead f fd) (T : Ty2 mg) (G : GAhead P w K mg base) : FnG P w K mg base CX0 2 f fd ["one", "other", "row"] (spP K urnBox 3 aheadF) := by
  refine fnP F scAhead fun cdv A outer s H E hr ts Pq hl hφ => ?_
  have S := @scAhead
  have hu64 : (A.deeper (PyProof.Rows.envOfC "_law_are_ahead" (defScope sAhead) s.heap.objs.size f cdv)).units + 64 < cLine := hr.units
  obtain ⟨m1, m2, n1, n2, wd, rfl, ⟨V1, V2, hs⟩, hpt, hwl, hP⟩ := hφ
  refine ⟨_, (s_cons (s_set (i := 3) S.nd (q_lst (a_cons (q_str) a_nil)))
      (s_cons (s_frz 3 (s_for PassesOwn.never rfl (i_range1 (by rfl) T.range (a_cons (q_op o_add op_addP (q_callB c_len call_lenP (by rfl) T.len (by rfl) (a_cons (q_al 2) a_nil)) (q_int)) a_nil)) (g_name (i := 4) S.nd) (s_cons (s_set (i := 5) S.nd (q_lst a_nil))
      (s_cons (s_for PassesOwn.never rfl (i_list (q_var 3)) (g_name (i := 6) S.nd) (s_cons (s_if (t_cmp o_eq (op_eqD hu64) (q_al 6) (q_al 2) (nomark _)) (s_one (s_ret (q_bl))) s_nil)
      (s_cons (s_if (t_cmp o_ne (op_neD hu64) (q_cF G._law_takes (hr.mono (by decide)) (by rfl) (a_cons (q_var 0) (a_cons (q_var 6) a_nil))) (q_cF G._law_takes (hr.mono (by decide)) (by rfl) (a_cons (q_var 1) (a_cons (q_var 6) a_nil))) (nomark _)) (s_one (s_ret (q_bl))) s_nil)
      (s_one (s_expr (q_ext 5 (q_lc (own := [("sign", 7)]) rfl S.nd (i_str (q_ix (q_al 0) (q_int))) (blkOk_by (by kernel_rfl)) (fun _ _ _ _ _ => (gv_name (i := 7) S.nd)) (fun _ _ _ _ _ => ts_nil) (fun _ _ _ _ _ => (q_op o_add op_addP (q_al 6) (q_al 7))))))))))
      (s_one (s_set (i := 3) S.nd (q_var 5)))))))
      (s_one (s_ret (q_bl))))), ?_⟩
  have hk := V1.sg.len
  have hwk := hpt.2.1
  have T2 : Tab m2.st n2 m1.sg.length := by rw [hs]; exact V2.tab
  have shS : ∀ v : List Nat, (∀ i ∈ v, i < m1.sg.length) → SeqAt.shaped (rowS m1.sg v) = true := fun v hv => (lay_str (k := 0) (sg_ok fun c hc => V1.sg.ok c (row_mem hv c hc))).shaped
  have hfew : ∀ t, t ≤ 5 → ((words m1.sg.length t).map (rowS m1.sg)).length ≤ 3125 := fun t ht => by rw [List.length_map]; exact words_few hk ht
  simp only [startP, endsP, List.length_cons, List.length_nil, Nat.zero_add, Nat.reduceAdd, Nat.reduceSub, List.reduceReplicate, List.cons_append, List.nil_append]
  refine seq_to (fun ρ => ρ = [.d m1.d, .d m2.d, .d (rowS m1.sg wd), .l ((words m1.sg.length 0).map (rowS m1.sg)), .un, .un, .un, .un]) (fun DP hD => ?_) ?_
  · simp? only [PL.z1]
    exact ⟨szL (by decide), hD _ rfl⟩
  rintro ρ rfl
  refine seq_toR (fun ρ => False) (fun N hN => ?_) (fun _ z => z.elim)
  simp only [sFrz, List.getElem?_cons_zero, List.getElem?_cons_succ, List.set_cons_succ, List.set_cons_zero]
  refine forT (rangeD 0 (wd.length + 1)) [.d m1.d, .d m2.d, .d (rowS m1.sg wd), .d (.list ((words m1.sg.length 0).map (rowS m1.sg))), .un, .un, .un, .un]
    (fun t ρ => t ≤ wd.length ∧ ∃ t4 t5 t6 : PL.T, ρ = [.d m1.d, .d m2.d, .d (rowS m1.sg wd), .d (.list ((words m1.sg.length t).map (rowS m1.sg))), t4, t5, t6, .un]) (fun R hR => ?_) ⟨Nat.zero_le _, _, _, _, rfl⟩ (fun t d ρ hd ⟨htl, t4, t5, t6, hρ⟩ => ?_) (fun ρ ⟨htl, _⟩ => ?_)
  · simp? only [rowS, sg_len]
    refine ⟨szL (by omega), ⟨by omega, by omega⟩, ?_⟩
    have e : (((wd.length : Nat) : Int) + 1).toNat = wd.length + 1 := by omega
    rw [e]
    simp only [rowS] at hR
    exact hR
  · subst hρ
    refine ⟨⟨by simp, trivial⟩, ?_⟩
    refine seq_to (fun ρ => ρ = [.d m1.d, .d m2.d, .d (rowS m1.sg wd), .d (.list ((words m1.sg.length t).map (rowS m1.sg))), .d d, .l [], t6, .un]) (fun DP hD => ?_) ?_
    · simp? only [PL.z1]
      exact ⟨by decide, hD _ rfl⟩
    rintro ρ rfl
    refine seq_toR (fun ρ => t + 1 ≤ wd.length ∧ ∃ t4 t6 : PL.T, ρ = [.d m1.d, .d m2.d, .d (rowS m1.sg wd), .d (.list ((words m1.sg.length t).map (rowS m1.sg))), t4, .l ((words m1.sg.length (t + 1)).map (rowS m1.sg)), t6, .un]) (fun N2 hN2 => ?_) ?_
    · refine forT ((words m1.sg.length t).map (rowS m1.sg)) [.d m1.d, .d m2.d, .d (rowS m1.sg wd), .d (.list ((words m1.sg.length t).map (rowS m1.sg))), .d d, .l [], t6, .un]
        (fun i ρ => wd ∉ (words m1.sg.length t).take i ∧ ∃ t6 : PL.T, ρ = [.d m1.d, .d m2.d, .d (rowS m1.sg wd), .d (.list ((words m1.sg.length t).map (rowS m1.sg))), .d d, .l ((((words m1.sg.length t).take i).flatMap fun v => (List.range m1.sg.length).map fun x => v ++ [x]).map (rowS m1.sg)), t6, .un])
        (fun R hR => ?_) ⟨by simp, t6, rfl⟩ (fun i d' ρ hd' ⟨hnw, t6, hρ⟩ => ?_) (fun ρ ⟨hnw, t6, hρ⟩ => ?_)
      · simp? only [PL.z1]
        exact hR
      · subst hρ
        obtain ⟨v, hv⟩ : ∃ v, (words m1.sg.length t)[i]? = some v := by
          have := (List.getElem?_eq_some_iff.mp hd').1
          rw [List.length_map] at this
          exact ⟨_, List.getElem?_eq_getElem this⟩
        rw [List.getElem?_map, hv] at hd'
        cases hd'
        have hvm := mem_words.mp (List.mem_of_getElem? hv)
        have htk : (words m1.sg.length t).take (i + 1) = (words m1.sg.length t).take i ++ [v] := by rw [List.take_add_one, hv]; rfl
        refine ⟨⟨by simp, trivial⟩, ?_⟩
        refine seq_if [.d m1.d, .d m2.d, .d (rowS m1.sg wd), .d (.list ((words m1.sg.length t).map (rowS m1.sg))), .d d, .l ((((words m1.sg.length t).take i).flatMap fun v => (List.range m1.sg.length).map fun x => v ++ [x]).map (rowS m1.sg)), .d (rowS m1.sg v), .un] (fun c => c = false → v ≠ wd) (fun R hR => ?_) (fun _ => ?_) fun hvw => ?_
        · simp? only [PL.z1]
          refine ⟨shS v hvm.2, shS wd hwk, hR _ fun z e => ?_⟩
          subst e
          rw [rowS, eqv_sg, decide_eq_true rfl] at z
          cases z
        · simp? only [PL.z1]
          exact hP
        have hne := hvw rfl
        have hsl : slt v wd := by
          rcases Nat.lt_or_ge t wd.length with z | z
          · exact .inl (by rw [hvm.1]; exact z)
          · have ht : t = wd.length := by omega
            refine .inr ⟨by rw [hvm.1]; exact ht, ?_⟩
            have hwm : wd ∈ words m1.sg.length t := mem_words.mpr ⟨ht.symm, hwk⟩
            obtain ⟨iw, hiw⟩ := List.mem_iff_getElem?.mp hwm
            have hii : i < iw := by
              rcases Nat.lt_trichotomy i iw with y | y | y
              · exact y
              · subst y
                rw [hv] at hiw
                cases hiw
                exact (hne rfl).elim
              · exact (hnw (by rw [List.mem_iff_getElem?]; exact ⟨iw, by rw [List.getElem?_take]; simp [y, hiw]⟩)).elim
            obtain ⟨l1, e1⟩ := List.getElem?_eq_some_iff.mp hv
            obtain ⟨l2, e2⟩ := List.getElem?_eq_some_iff.mp hiw
            have := List.pairwise_iff_getElem.mp (words_ord m1.sg.length t) i iw l1 l2 hii
            rw [e1, e2] at this
            exact this
        have hsame : (rn m1.st m1.b v ∈ m1.en ↔ rn m2.st m2.b v ∈ m2.en) := Classical.byContradiction fun q => by
          rcases hpt.2.2 v hvm.2 q with z | z
          · exact hne z.symm
          · exact slt_irr (slt_trans hsl z)
        refine seq_pass [.d m1.d, .d m2.d, .d (rowS m1.sg wd), .d (.list ((words m1.sg.length t).map (rowS m1.sg))), .d d, .l ((((words m1.sg.length t).take i).flatMap fun v => (List.range m1.sg.length).map fun x => v ++ [x]).map (rowS m1.sg)), .d (rowS m1.sg v), .un] (fun R hR => ?_) ?_
        · simp? only [PL.z1]
          refine ⟨m1, n1, v.map fun i => m1.sg.getD i 0, rfl, V1.ok, row_mem hvm.2, ?_⟩
          simp? only [PL.z1]
          refine ⟨m2, n2, v.map fun i => m1.sg.getD i 0, rfl, V2.ok, by rw [← hs]; exact row_mem hvm.2, ?_⟩
          rw [← hs, ixs_row V1.sg.nd hvm.2]
          simp? only [eqv_bb]
          refine ⟨shBool _, shBool _, ?_⟩
          have e : decide (decide (rn m1.st m1.b v ∈ m1.en) = decide (rn m2.st m2.b v ∈ m2.en)) = true := decide_eq_true (decide_eq_decide.mpr hsame)
          rw [e]
          exact hR
        have hin := List.take_subset i (words m1.sg.length t)
        have hfl : ((((words m1.sg.length t).take i).flatMap fun v => (List.range m1.sg.length).map fun x => v ++ [x]).map (rowS m1.sg)).length ≤ 15625 := by
          rw [List.length_map, len_const (c := m1.sg.length) fun x => by simp]
          have h1 : ((words m1.sg.length t).take i).length ≤ 3125 := Nat.le_trans (List.length_take_le' _ _) (words_few hk (by omega))
          have := Nat.mul_le_mul h1 hk
          omega
        simp? only [PL.z1]
        refine lc_mapT (m1.sg.map fun c => .str (sg [c])) [.d m1.d, .d m2.d, .d (rowS m1.sg wd), .d (.list ((words m1.sg.length t).map (rowS m1.sg))), .d d, .l ((((words m1.sg.length t).take i).flatMap fun v => (List.range m1.sg.length).map fun x => v ++ [x]).map (rowS m1.sg)), .d (rowS m1.sg v), .un]
          (((List.range m1.sg.length).map fun x => v ++ [x]).map (rowS m1.sg)) (fun R hR => ?_) (by simp [barePl, PL.T.bare]) (by simp) (by rw [List.length_map]; exact szL (by omega)) (fun j d2 o hd2 ho R hR => ?_) ?_
        · simp? only [M.d, sg_signs]
          exact hR
        · have hj : j < m1.sg.length := by have := (List.getElem?_eq_some_iff.mp hd2).1; rwa [List.length_map] at this
          have hc : m1.sg[j]? = some m1.sg[j] := List.getElem?_eq_getElem hj
          rw [List.getElem?_map, hc] at hd2
          cases hd2
          rw [show (((List.range m1.sg.length).map fun x => v ++ [x]).map (rowS m1.sg))[j]? = some (rowS m1.sg (v ++ [j])) by simp [hj]] at ho
          cases ho
          have hvl := hvm.1
          simp? only [wipeP, rowS, sg_len, List.length_map]
          refine ⟨szL (by omega), hR _ _ ?_ rfl⟩
          rw [rowS_snoc hc]
          rfl
        · simp? only [PL.z1]
          refine ⟨by rw [sizeLine_eq]; simp only [List.length_map, List.length_range] at hfl ⊢; omega, ?_, .d (rowS m1.sg v), ?_⟩
          · rw [htk]
            intro z
            rcases List.mem_append.mp z with y | y
            · exact hnw y
            · exact hne (List.mem_singleton.mp y).symm
          · rw [htk, List.flatMap_append, List.map_append]
            simp
      · subst hρ
        rw [List.length_map, List.take_length] at hnw
        rw [List.length_map, List.take_length]
        have : t ≠ wd.length := fun e => hnw (mem_words.mpr ⟨e.symm, hwk⟩)
        exact hN2 _ ⟨by omega, _, _, rfl⟩
    rintro ρ ⟨htl2, t4, t6, rfl⟩
    simp? only [PL.z1]
    exact ⟨htl2, _, _, _, rfl⟩
  · rw [rangeD_len] at htl
    omega
end
end C60

set_option Elab.async false
set_option linter.all false
set_option maxRecDepth 100000
namespace C60
open PySem L2 PL PM
abbrev sLaw : Stmt := top 23
theorem lett_menu {d : D} (h : d ∈ [PyData.str "ab", .str "ab", .str "ab", .str "abc", .str "a", .str "wxyz"]) : ∃ l, d = .str (sg l) ∧ Lett l := by
  simp only [List.mem_cons, List.not_mem_nil, or_false] at h
  rcases h with rfl | rfl | rfl | rfl | rfl | rfl
  · exact ⟨[97, 98], rfl, by decide, by decide, by decide, by unfold SgOk; decide⟩
  · exact ⟨[97, 98], rfl, by decide, by decide, by decide, by unfold SgOk; decide⟩
  · exact ⟨[97, 98], rfl, by decide, by decide, by decide, by unfold SgOk; decide⟩
  · exact ⟨[97, 98, 99], rfl, by decide, by decide, by decide, by unfold SgOk; decide⟩
  · exact ⟨[97], rfl, by decide, by decide, by decide, by unfold SgOk; decide⟩
  · exact ⟨[119, 120, 121, 122], rfl, by decide, by decide, by decide, by unfold SgOk; decide⟩
theorem lett_menu2 {d : D} (h : d ∈ [PyData.str "a", .str "b", .str "abc", .str "ac"]) : ∃ l, d = .str (sg l) ∧ Lett l ∧ l ≠ [97, 98] := by
  simp only [List.mem_cons, List.not_mem_nil, or_false] at h
  rcases h with rfl | rfl | rfl | rfl
  · exact ⟨[97], rfl, ⟨by decide, by decide, by decide, by unfold SgOk; decide⟩, by decide⟩
  · exact ⟨[98], rfl, ⟨by decide, by decide, by decide, by unfold SgOk; decide⟩, by decide⟩
  · exact ⟨[97, 98, 99], rfl, ⟨by decide, by decide, by decide, by unfold SgOk; decide⟩, by decide⟩
  · exact ⟨[97, 99], rfl, ⟨by decide, by decide, by decide, by unfold SgOk; decide⟩, by decide⟩
theorem lett_ab : Lett [97, 98] := ⟨by decide, by decide, by decide, by unfold SgOk; decide⟩
theorem mosts {i : Nat} (h : i < 6) : ∃ k : Nat, ([.int 3, .int 5, .int 8, .int 4, .int 6, .int 2] : List D)[i]? = some (.int (k : Nat)) ∧ 1 ≤ k ∧ k ≤ 8 := by
  have : i = 0 ∨ i = 1 ∨ i = 2 ∨ i = 3 ∨ i = 4 ∨ i = 5 := by omega
  rcases this with rfl | rfl | rfl | rfl | rfl | rfl
  · exact ⟨3, rfl, by decide, by decide⟩
  · exact ⟨5, rfl, by decide, by decide⟩
  · exact ⟨8, rfl, by decide, by decide⟩
  · exact ⟨4, rfl, by decide, by decide⟩
  · exact ⟨6, rfl, by decide, by decide⟩
  · exact ⟨2, rfl, by decide, by decide⟩
/-- the machine of a word of the signs a, b -/
theorem word_mv {w : List Nat} (hne : w ≠ []) (hs : ∀ c ∈ w, c ∈ [97, 98]) (hl : w.length ≤ 6) : MV (wordM [97, 98] w) (w.length + 1) :=
  ⟨kst_tab _ _, Nat.zero_lt_succ _, fun e he => by
    have : e = w.length := List.mem_singleton.mp he
    omega, by show 1 ≤ w.length + 1; omega, by omega, lett_ab⟩
section
variable {P : Program} {w : World} {K : PySem.W.Frag} {mg : Str → Option Value} {base : Heap}
structure GIsRight (P : Program) (w : World) (K : PySem.W.Frag) (mg : Str → Option Value) (base : Heap) : Prop where
  _law_first : Cal P w K mg base urnBox 1 "_law_first" ["one", "other"] 2 firstF
  _law_told : Cal P w K mg base urnBox 3 "_law_told" ["one", "other", "is_named"] 3 toldF
  least_machine : Cal P w K mg base urnBox 3 "least_machine" ["machine"] 1 leastMF
  _law_takes : Cal P w K mg base urnBox 1 "_law_takes" ["machine", "row"] 2 takesF
  _law_are_ahead : Cal P w K mg base urnBox 2 "_law_are_ahead" ["one", "other", "row"] 3 aheadF
theorem scIsRight : FnScope ["one", "other", "is_named", "known", "due", "told"] ["one", "other", "is_named"] (defScope sIsRight) := ⟨rfl, rfl, rfl, by decide +kernel, rfl, by decide +kernel, by decide +kernel⟩
set_option maxHeartbeats 1000000 in
theorem ok_isRight {f : Addr} {fd : FuncData} (F : Fun K "_law_is_right" "_law_is_right" sIsRight f fd) (T : Ty2 mg) (G : GIsRight P w K mg base) : FnG P w K mg base CX0 4 f fd ["one", "other", "is_named"] (spP K urnBox 3 isRightF) := by
  refine fnP F scIsRight fun cdv A outer s H E hr ts Pq hl hφ => ?_
  have S := @scIsRight
  have hgd : (A.deeper (PyProof.Rows.envOfC "_law_is_right" (defScope sIsRight) s.heap.objs.size f cdv)).guards = some [] := hr.gd
  have hu64 : (A.deeper (PyProof.Rows.envOfC "_law_is_right" (defScope sIsRight) s.heap.objs.size f cdv)).units + 64 < cLine := hr.units
  obtain ⟨m1, m2, n1, n2, na, rfl, H2, hP⟩ := hφ
  refine ⟨_, (s_cons (s_par2 (i := 3) (j := 4) rfl S.nd (by decide) (b_cons (q_callB c_repr (call_reprP hgd) (by rfl) T.repr (by rfl) (a_cons (q_lst (a_cons (q_var 0) (a_cons (q_var 1) a_nil))) a_nil)) (b_cons (q_cF G._law_first (hr.mono (by decide)) (by rfl) (a_cons (q_var 0) (a_cons (q_var 1) a_nil))) b_nil)) (by rfl))
      (s_cons (s_set (i := 5) S.nd (q_lst (a_cons (q_cF G._law_told (hr.mono (by decide)) (by rfl) (a_cons (q_var 0) (a_cons (q_var 1) (a_cons (q_var 2) a_nil)))) (a_cons (q_cF G._law_told (hr.mono (by decide)) (by rfl) (a_cons (q_var 1) (a_cons (q_var 0) (a_cons (q_bl) a_nil)))) (a_cons (q_cF G._law_told (hr.mono (by decide)) (by rfl) (a_cons (q_var 0) (a_cons (q_var 1) (a_cons (q_bl) a_nil)))) a_nil)))))
      (s_cons (s_if ((w_or (t_cmp o_neR op_ne (q_callB c_repr (call_reprP hgd) (by rfl) T.repr (by rfl) (a_cons (q_al 5) a_nil)) (q_callB c_repr (call_reprP hgd) (by rfl) T.repr (by rfl) (a_cons (q_op o_mul op_mulP (q_lst (a_cons (q_lst (a_cons (q_str) (a_cons (q_var 4) a_nil))) a_nil)) (q_int)) a_nil)) (nomark _)) (w_or1 (t_cmp o_neR op_ne (q_callB c_repr (call_reprP hgd) (by rfl) T.repr (by rfl) (a_cons (q_lst (a_cons (q_var 0) (a_cons (q_var 1) a_nil))) a_nil)) (q_var 3) (nomark _)))).pt) (s_one (s_ret (q_bl))) s_nil)
      (s_cons (s_if (t_cmp o_ne (op_neD hu64) (q_cmp o_eqR op_eq (q_callB c_repr (call_reprP hgd) (by rfl) T.repr (by rfl) (a_cons (q_cF G.least_machine (hr.mono (by decide)) (by rfl) (a_cons (q_var 0) a_nil)) a_nil)) (q_callB c_repr (call_reprP hgd) (by rfl) T.repr (by rfl) (a_cons (q_cF G.least_machine (hr.mono (by decide)) (by rfl) (a_cons (q_var 1) a_nil)) a_nil)) (nomark _)) (q_cmp o_isN op_isN (q_al 4) (q_non) (nomark _)) (nomark _)) (s_one (s_ret (q_bl))) s_nil)
      (s_cons (s_if (t_cmp o_isN op_isN (q_al 4) (q_non) (nomark _)) (s_one (s_ret (q_bl))) s_nil)
      (s_cons (s_if ((w_or (t_cmp o_eq (op_eqD hu64) (q_cF G._law_takes (hr.mono (by decide)) (by rfl) (a_cons (q_var 0) (a_cons (q_var 4) a_nil))) (q_cF G._law_takes (hr.mono (by decide)) (by rfl) (a_cons (q_var 1) (a_cons (q_var 4) a_nil))) (nomark _)) (w_or1 (t_cmp o_ge op_ge (q_callB c_len call_lenP (by rfl) T.len (by rfl) (a_cons (q_al 4) a_nil)) (q_op o_add op_addP (q_callB c_len call_lenP (by rfl) T.len (by rfl) (a_cons (q_ix (q_al 0) (q_int)) a_nil)) (q_callB c_len call_lenP (by rfl) T.len (by rfl) (a_cons (q_ix (q_al 1) (q_int)) a_nil))) (nomark _)))).pt) (s_one (s_ret (q_bl))) s_nil)
      (s_one (s_ret ((q_or (q_cmp o_gt op_gt (q_callB c_len call_lenP (by rfl) T.len (by rfl) (a_cons (q_al 4) a_nil)) (q_int) (nomark _)) (q_one (q_cF G._law_are_ahead (hr.mono (by decide)) (by rfl) (a_cons (q_var 0) (a_cons (q_var 1) (a_cons (q_var 4) a_nil))))))))))))))), ?_⟩
  obtain ⟨V1, V2, hs⟩ := id H2
  have sm1 := sm_mach V1
  have sm2 := sm_mach V2
  have hk := V1.sg.len
  have smp : Sm 4 1000 (.list [m1.d, m2.d]) := sm_list (all2 sm1 sm2) (by simp)
  have V18 := V1.n8
  have V28 := V2.n8
  simp only [startP, endsP, List.length_cons, List.length_nil, Nat.zero_add, Nat.reduceAdd, Nat.reduceSub, List.reduceReplicate, List.cons_append, List.nil_append]
  refine seq_to (fun ρ => ∃ o, Part m1 m2 o ∧ ρ = [.d m1.d, .d m2.d, .d (.bool na), .d (.str (PyData.list [m1.d, m2.d]).shown), .d (rowO m1.sg o), .un]) (fun DP hD => ?_) ?_
  · simp? only [PL.z1]
    refine ⟨szL (by decide), sm_repr (k := 4) (n := 1000) smp hu64 ?_⟩
    simp? only [PL.z1]
    exact ⟨m1, m2, n1, n2, rfl, H2, fun o ho => ⟨by decide, hD _ ⟨o, part_of H2 ho, rfl⟩⟩⟩
  rintro ρ ⟨o, ho, rfl⟩
  have hos : ∀ wd, o = some wd → wd.length ≤ 16 := fun wd e => by
    subst e
    have := part_short H2 ho
    omega
  have hod : Sm 1 40 (rowO m1.sg o) := by
    cases o with
    | none => exact sm_none
    | some wd => exact sm_row V1.sg ho.2.1 (by have := hos wd rfl; omega)
  have hsame : ∀ o', Part m1 m2 o' → o' = o := fun o' h => part_eq h ho
  have hsame2 : ∀ o', Part m2 m1 o' → o' = o := fun o' h => part_eq (part_symm hs.symm h) ho
  have stold : Sm 2 200 (.list [.str "told", rowO m1.sg o]) := sm_list (n := 40) (all2 (sm_str (by decide +kernel) (by decide)) hod) (by simp)
  refine seq_to (fun ρ => ρ = [.d m1.d, .d m2.d, .d (.bool na), .d (.str (PyData.list [m1.d, m2.d]).shown), .d (rowO m1.sg o), .l [.list [.str "told", rowO m1.sg o], .list [.str "told", rowO m1.sg o], .list [.str "told", rowO m1.sg o]]]) (fun DP hD => ?_) ?_
  · simp? only [PL.z1]
    refine ⟨m1, m2, n1, n2, na, rfl, V1, V2, fun z => (z hs).elim, fun _ o1 h1 => ?_⟩
    rw [hsame o1 h1]
    simp? only [PL.z1]
    refine ⟨m2, m1, n2, n1, false, rfl, V2, V1, fun z => (z hs.symm).elim, fun _ o2 h2 => ?_⟩
    rw [hsame2 o2 h2, ← hs]
    simp? only [PL.z1]
    refine ⟨m1, m2, n1, n2, false, rfl, V1, V2, fun z => (z hs).elim, fun _ o3 h3 => ?_⟩
    rw [hsame o3 h3]
    simp? only [PL.z1]
    exact ⟨szL (by decide), hD _ rfl⟩
  rintro ρ rfl
  have stol3 : Sm 3 1000 (.list [.list [.str "told", rowO m1.sg o], .list [.str "told", rowO m1.sg o], .list [.str "told", rowO m1.sg o]]) := sm_list (all3 stold stold stold) (by simp)
  refine seq_pass [.d m1.d, .d m2.d, .d (.bool na), .d (.str (PyData.list [m1.d, m2.d]).shown), .d (rowO m1.sg o), .l [.list [.str "told", rowO m1.sg o], .list [.str "told", rowO m1.sg o], .list [.str "told", rowO m1.sg o]]] (fun R hR => ?_) ?_
  · simp? only [PL.z1]
    refine sm_repr (k := 3) (n := 1000) stol3 hu64 ?_
    have e3 : (List.replicate (3 : Int).toNat [PyData.list [.str "told", rowO m1.sg o]]).flatten = [.list [.str "told", rowO m1.sg o], .list [.str "told", rowO m1.sg o], .list [.str "told", rowO m1.sg o]] := rfl
    simp? only [e3]
    refine ⟨szL (by decide), szL (by decide), ⟨by decide, by decide, szL (by decide)⟩, sm_repr (k := 3) (n := 1000) stol3 hu64 ?_⟩
    simp? only [decide_true, Bool.not_true]
    refine ⟨szL (by decide), sm_repr (k := 4) (n := 1000) smp hu64 ?_⟩
    simp? only [decide_true, Bool.not_true]
    exact hR
  refine seq_pass [.d m1.d, .d m2.d, .d (.bool na), .d (.str (PyData.list [m1.d, m2.d]).shown), .d (rowO m1.sg o), .l [.list [.str "told", rowO m1.sg o], .list [.str "told", rowO m1.sg o], .list [.str "told", rowO m1.sg o]]] (fun R hR => ?_) ?_
  · simp? only [PL.z1]
    refine ⟨m1, rfl, least_of_mv V1 fun c1 hc1 => ?_⟩
    obtain ⟨k1, W1, ml1, _⟩ := can_ok V1 hc1
    simp? only [PL.z1]
    refine sm_repr (k := 3) (n := 200) (sm_mach W1) hu64 ⟨m2, rfl, least_of_mv V2 fun c2 hc2 => ?_⟩
    obtain ⟨k2, W2, ml2, _⟩ := can_ok V2 hc2
    simp? only [PL.z1]
    refine sm_repr (k := 3) (n := 200) (sm_mach W2) hu64 ?_
    have hl1 : ∀ c m : M, Can m c → c.b = 0 := fun c m h => by
      obtain ⟨_, _, _, _, _, _, _, rfl⟩ := h
      rfl
    cases o with
    | none =>
      have : mlang m1 m2 := ⟨hs.symm, fun v hv => Classical.byContradiction fun q => ho v hv q⟩
      have e : c1 = c2 := can_eq hc1 hc2 this
      subst e
      simp? only [rowO, eqv_bb, decide_true, Bool.not_false, Bool.not_true]
      exact ⟨shBool _, shBool _, hR⟩
    | some wd =>
      have hne : ¬ (c1.d.shown = c2.d.shown) := fun e => by
        have e2 := mach_back W1 W2 (by rw [ml1.1, ml2.1, hs]) (by rw [hl1 _ _ hc1, hl1 _ _ hc2]) e
        subst e2
        have := ml1.trans ml2.symm
        exact ho.1 (this.2 wd ho.2.1)
      simp? only [rowO, rowS, eqv_bb, decide_eq_false hne, decide_true, Bool.not_false, Bool.not_true]
      exact ⟨shBool _, shBool _, hR⟩
  cases o with
  | none =>
    simp? only [rowO]
    exact hP
  | some wd =>
    have hwl := hos wd rfl
    have hwk := ho.2.1
    have hw2 : ∀ i ∈ wd, i < m2.sg.length := by rw [← hs]; exact hwk
    refine seq_pass [.d m1.d, .d m2.d, .d (.bool na), .d (.str (PyData.list [m1.d, m2.d]).shown), .d (rowO m1.sg (some wd)), .l [.list [.str "told", rowO m1.sg (some wd)], .list [.str "told", rowO m1.sg (some wd)], .list [.str "told", rowO m1.sg (some wd)]]] (fun R hR => ?_) ?_
    · simp? only [rowO, rowS]
      exact hR
    refine seq_pass [.d m1.d, .d m2.d, .d (.bool na), .d (.str (PyData.list [m1.d, m2.d]).shown), .d (rowO m1.sg (some wd)), .l [.list [.str "told", rowO m1.sg (some wd)], .list [.str "told", rowO m1.sg (some wd)], .list [.str "told", rowO m1.sg (some wd)]]] (fun R hR => ?_) ?_
    · have hsh := part_short H2 ho
      simp? only [PL.z1]
      refine ⟨m1, n1, wd.map fun i => m1.sg.getD i 0, rfl, V1.ok, row_mem hwk, ?_⟩
      simp? only [PL.z1]
      refine ⟨m2, n2, wd.map fun i => m1.sg.getD i 0, rfl, V2.ok, by rw [← hs]; exact row_mem hwk, ?_⟩
      rw [← hs, ixs_row V1.sg.nd hwk]
      have hne : ¬ (decide (rn m1.st m1.b wd ∈ m1.en) = decide (rn m2.st m2.b wd ∈ m2.en)) := fun z => ho.1 (decide_eq_decide.mp z)
      simp? only [eqv_bb, decide_eq_false hne, rowO, rowS, sg_len, List.length_map, M.d, rows_len, V1.tab.len, V2.tab.len]
      refine ⟨shBool _, shBool _, szL (by omega), ?_⟩
      rw [decide_eq_false (by omega)]
      simp only [rowO, rowS] at hR
      exact hR
    simp? only [rowO, rowS, sg_len, List.length_map]
    refine ⟨szL (by omega), ?_⟩
    by_cases h4 : (4 : Int) < ((wd.length : Nat) : Int)
    · rw [decide_eq_true h4]
      exact hP
    · rw [decide_eq_false h4]
      exact ⟨m1, m2, n1, n2, wd, rfl, H2, ho, by omega, hP, trivial⟩
structure GLaw (P : Program) (w : World) (K : PySem.W.Frag) (mg : Str → Option Value) (base : Heap) : Prop where
  _law_urn : ∃ f fd, mg "_law_urn" = some (.ref f) ∧ PySem.W.keepIn K (.ref f) = true ∧ Binds K fd ["script"] [] ∧ FnOk P w K mg base CX0 1 f fd ["script"] (spUrn K)
  _law_take : Cal P w K mg base urnBox 1 "_law_take" ["urn", "many"] 2 takeF
  _law_pick : Cal P w K mg base urnBox 2 "_law_pick" ["urn", "menu"] 2 pickF
  _law_machine : Cal P w K mg base urnBox 2 "_law_machine" ["urn", "letters", "most"] 3 machF
  _law_ring : Cal P w K mg base urnBox 2 "_law_ring" ["urn", "letters", "many"] 3 ringF
  _law_dressed : Cal P w K mg base urnBox 2 "_law_dressed" ["urn", "machine"] 2 dressedF
  _law_nearly : Cal P w K mg base urnBox 2 "_law_nearly" ["urn", "machine"] 2 nearlyF
  _law_is_right : Cal P w K mg base urnBox 4 "_law_is_right" ["one", "other", "is_named"] 3 isRightF
  _law_told : Cal P w K mg base urnBox 3 "_law_told" ["one", "other", "is_named"] 3 toldF
  word_machine : Cal P w K mg base urnBox 3 "word_machine" ["signs", "word"] 2 wmF
theorem scLaw : FnScope ["script", "urn", "turn", "letters", "one", "other", "word", "far"] ["script"] (defScope sLaw) := ⟨rfl, rfl, rfl, by decide +kernel, rfl, by decide +kernel, by decide +kernel⟩
set_option maxHeartbeats 2000000 in
theorem ok_law {f : Addr} {fd : FuncData} (F : Fun K "law" "law" sLaw f fd) (hb : ∀ (s : Shared) (v : Value), BindsTo s fd ⟨[v], []⟩ [("script", v)]) (T : Ty2 mg) (G : GLaw P w K mg base) : RunAt P w K mg base CX0 f (spLaw K) := by
  intro s H a Q E e0 h
  obtain ⟨a', ns, e, hS, hl, hQ⟩ := h
  cases e
  refine lawRun (k := 6) (vs := [.ref a]) (us := [.ref a]) F scLaw ⟨rfl, by decide, by decide⟩ e0 (hb s (.ref a)) (.cons rfl .nil) rfl fun cdv hr0 => ?_
  have S := @scLaw
  have hr : RoomG 6 (callerA.deeper (PyProof.Rows.envOfC "law" (defScope sLaw) s.heap.objs.size f cdv)) := ⟨hr0, rfl⟩
  have hgd : (callerA.deeper (PyProof.Rows.envOfC "law" (defScope sLaw) s.heap.objs.size f cdv)).guards = some [] := rfl
  have hu64 : (callerA.deeper (PyProof.Rows.envOfC "law" (defScope sLaw) s.heap.objs.size f cdv)).units + 64 < cLine := hr.units
  obtain ⟨fu, fdu, u1, u2, u3, u4⟩ := G._law_urn
  refine ⟨_, pss_cons (ps_set (i := 1) S.nd rfl (by first | exact Or.inl rfl | exact Or.inr rfl) (pe_call u4 (hr0.mono (by decide)) (by rfl) u1 u2 u3 .nil pass0 (pa_cons (pv 0) pa_nil))) (s_cons (s_for PassesOwn.never rfl (i_range1 (by rfl) T.range (a_cons (q_int) a_nil)) (g_name (i := 2) S.nd) (s_cons (s_set (i := 3) S.nd (q_cU (i := 1) G._law_pick (hr.mono (by decide)) (by rfl) (pv 1) (a_cons (q_lst (a_cons (q_str) (a_cons (q_str) (a_cons (q_str) (a_cons (q_str) (a_cons (q_str) (a_cons (q_str) a_nil))))))) a_nil)))
      (s_cons (s_set (i := 4) S.nd (q_cU (i := 1) G._law_machine (hr.mono (by decide)) (by rfl) (pv 1) (a_cons (q_var 3) (a_cons (q_ix (q_lst (a_cons (q_int) (a_cons (q_int) (a_cons (q_int) (a_cons (q_int) (a_cons (q_int) (a_cons (q_int) a_nil))))))) (q_var 2)) a_nil))))
      (s_cons (s_if (t_cmp o_eq (op_eqD hu64) (q_al 2) (q_int) (nomark _)) (s_one (s_set (i := 4) S.nd (q_cU (i := 1) G._law_ring (hr.mono (by decide)) (by rfl) (pv 1) (a_cons (q_var 3) (a_cons (q_op o_add op_addP (q_int) (q_cU (i := 1) G._law_take (hr.mono (by decide)) (by rfl) (pv 1) (a_cons (q_int) a_nil))) a_nil))))) s_nil)
      (s_cons (s_set (i := 5) S.nd (q_cU (i := 1) G._law_dressed (hr.mono (by decide)) (by rfl) (pv 1) (a_cons (q_var 4) a_nil)))
      (s_cons (s_if ((w_or (t_not (t_val (q_cF G._law_is_right (hr.mono (by decide)) (by rfl) (a_cons (q_var 4) (a_cons (q_var 5) (a_cons (q_cmp o_eq (op_eqD hu64) (q_al 2) (q_int) (nomark _)) a_nil)))))) (w_or1 (t_not (t_val (q_cF G._law_is_right (hr.mono (by decide)) (by rfl) (a_cons (q_var 4) (a_cons (q_cU (i := 1) G._law_nearly (hr.mono (by decide)) (by rfl) (pv 1) (a_cons (q_var 5) a_nil)) (a_cons (q_bl) a_nil)))))))).pt) (s_one (s_ret (q_bl))) s_nil)
      (s_cons (s_if ((w_and (t_cmp o_eq (op_eqD hu64) (q_al 2) (q_int) (nomark _)) (w_and1 (t_not (t_val (q_cF G._law_is_right (hr.mono (by decide)) (by rfl) (a_cons (q_var 4) (a_cons (q_cU (i := 1) G._law_machine (hr.mono (by decide)) (by rfl) (pv 1) (a_cons (q_var 3) (a_cons (q_int) a_nil))) (a_cons (q_bl) a_nil)))))))).pt) (s_one (s_ret (q_bl))) s_nil)
      (s_one (s_if ((w_and (t_cmp o_eq (op_eqD hu64) (q_al 2) (q_int) (nomark _)) (w_and1 (t_not (t_val (q_cF G._law_is_right (hr.mono (by decide)) (by rfl) (a_cons (q_cU (i := 1) G._law_ring (hr.mono (by decide)) (by rfl) (pv 1) (a_cons (q_var 3) (a_cons (q_int) a_nil))) (a_cons (q_cU (i := 1) G._law_ring (hr.mono (by decide)) (by rfl) (pv 1) (a_cons (q_var 3) (a_cons (q_int) a_nil))) (a_cons (q_bl) a_nil)))))))).pt) (s_one (s_ret (q_bl))) s_nil)))))))))
      (s_cons (s_set (i := 6) S.nd (q_join (q_str) (q_lc (own := [("turn", 2)]) rfl S.nd (i_range1 (by rfl) T.range (a_cons (q_op o_add op_addP (q_int) (q_cU (i := 1) G._law_take (hr.mono (by decide)) (by rfl) (pv 1) (a_cons (q_int) a_nil))) a_nil)) (blkOk_by (by kernel_rfl)) (fun _ _ _ _ _ => (gv_name (i := 2) S.nd)) (fun _ _ _ _ _ => ts_nil) (fun _ _ _ _ _ => (q_cU (i := 1) G._law_pick (hr.mono (by decide)) (by rfl) (pv 1) (a_cons (q_str) a_nil))))))
      (s_cons (s_if (t_not (t_val (q_cF G._law_is_right (hr.mono (by decide)) (by rfl) (a_cons (q_cF G.word_machine (hr.mono (by decide)) (by rfl) (a_cons (q_str) (a_cons (q_var 6) a_nil))) (a_cons (q_cF G.word_machine (hr.mono (by decide)) (by rfl) (a_cons (q_str) (a_cons (q_sl (q_al 6) po_no (po_at (q_neg (q_int)))) a_nil))) (a_cons (q_bl) a_nil)))))) (s_one (s_ret (q_bl))) s_nil)
      (s_cons (s_set (i := 7) S.nd (q_cU (i := 1) G._law_machine (hr.mono (by decide)) (by rfl) (pv 1) (a_cons (q_cU (i := 1) G._law_pick (hr.mono (by decide)) (by rfl) (pv 1) (a_cons (q_lst (a_cons (q_str) (a_cons (q_str) (a_cons (q_str) (a_cons (q_str) a_nil))))) a_nil)) (a_cons (q_int) a_nil))))
      (s_one (s_ret (q_cmp o_eqR op_eq (q_callB c_repr (call_reprP hgd) (by rfl) T.repr (by rfl) (a_cons (q_lst (a_cons (q_cF G._law_told (hr.mono (by decide)) (by rfl) (a_cons (q_var 7) (a_cons (q_cU (i := 1) G._law_machine (hr.mono (by decide)) (by rfl) (pv 1) (a_cons (q_str) (a_cons (q_int) a_nil))) (a_cons (q_bl) a_nil)))) (a_cons (q_cF G._law_told (hr.mono (by decide)) (by rfl) (a_cons (q_var 7) (a_cons (q_var 7) (a_cons (q_bl) a_nil)))) a_nil))) a_nil)) (q_callB c_repr (call_reprP hgd) (by rfl) T.repr (by rfl) (a_cons (q_lst (a_cons (q_lst (a_cons (q_str) (a_cons (q_bl) a_nil))) (a_cons (q_lst (a_cons (q_str) (a_cons (q_non) a_nil))) a_nil))) a_nil)) (nomark _)))))))), ?_⟩
  refine law_read (n := 7) ⟨by decide, by decide⟩ hS hl (fun u => ?_) hQ
  have e4 : (4 : Int) = ((4 : Nat) : Int) := rfl
  have e3 : (3 : Int) = ((3 : Nat) : Int) := rfl
  have e7 : (7 : Int) = ((7 : Nat) : Int) := rfl
  have e8 : (8 : Int) = ((8 : Nat) : Int) := rfl
  have eab : (PyData.str "ab") = .str (sg [97, 98]) := rfl
  refine seq_toR (fun ρ => ∃ t2 t3 t4 t5, t2.bare ∧ ρ = [.raw (.ref a), .bx u, t2, t3, t4, t5, .un, .un]) (fun N hN => ?_) ?_
  · refine forT (rangeD 0 6) [.raw (.ref a), .bx u, .un, .un, .un, .un, .un, .un]
      (fun _ ρ => ∃ t2 t3 t4 t5, t2.bare ∧ ρ = [.raw (.ref a), .bx u, t2, t3, t4, t5, .un, .un]) (fun R hR => ?_) ⟨.un, _, _, _, trivial, rfl⟩ (fun i d ρ hd ⟨t2, t3, t4, t5, _, hρ⟩ => ?_) (fun ρ h => hN ρ h)
    · simp? only [PL.z1]
      exact ⟨⟨by decide, by decide⟩, hR⟩
    subst hρ
    have hi : i < 6 := by have := (List.getElem?_eq_some_iff.mp hd).1; rwa [rangeD_len] at this
    rw [nats_range hi] at hd
    cases hd
    refine ⟨⟨by simp, trivial⟩, ?_⟩
    obtain ⟨k1, q1, b1⟩ := mosts hi
    refine seq_to (fun ρ => ∃ l, Lett l ∧ ρ = [.raw (.ref a), .bx u, .d (.int (i : Nat)), .d (.str (sg l)), t4, t5, .un, .un]) (fun DP' hD' => ?_) ?_
    · simp? only [PL.z1]
      refine ⟨szL (by decide), u, .inl ⟨_, rfl, by simp, by simp, fun d hd => ?_⟩⟩
      obtain ⟨l, rfl, hL⟩ := lett_menu hd
      simp? only [PL.z1]
      exact hD' _ ⟨l, hL, rfl⟩
    rintro ρ ⟨l, hL, rfl⟩
    refine seq_to (fun ρ => ∃ m n, m.sg = l ∧ MV m n ∧ ρ = [.raw (.ref a), .bx u, .d (.int (i : Nat)), .d (.str (sg l)), .d m.d, t5, .un, .un]) (fun DP' hD' => ?_) ?_
    · simp? only [q1]
      exact ⟨szL (by decide), u, l, k1, rfl, hL, b1, fun m n h1 h2 h3 => ⟨trivial, hD' _ ⟨m, n, h1, h2, rfl⟩⟩⟩
    rintro ρ ⟨m0, n0, hs0, V0, rfl⟩
    refine seq_to (fun ρ => ∃ m n, m.sg = l ∧ MV m n ∧ ρ = [.raw (.ref a), .bx u, .d (.int (i : Nat)), .d (.str (sg l)), .d m.d, t5, .un, .un]) (fun DP' hD' => ?_) ?_
    · refine if_any [.raw (.ref a), .bx u, .d (.int (i : Nat)), .d (.str (sg l)), .d m0.d, t5, .un, .un] (fun _ => True) (fun R hR => ?_) (fun _ => ?_) fun _ => ?_
      · simp? only [PL.z1]
        exact ⟨shInt _, shInt _, hR _ trivial⟩
      · simp? only [PL.z1]
        refine ⟨u, 4, rfl, ⟨by decide, by decide⟩, fun r r0 r1 => ?_⟩
        obtain ⟨k, rfl⟩ := natOf r0
        have e5 : (5 : Int) + ((k : Nat) : Int) = ((5 + k : Nat) : Int) := by omega
        simp? only [e5]
        exact ⟨u, l, 5 + k, rfl, hL, ⟨by omega, by omega⟩, fun m h1 h2 => ⟨trivial, hD' _ ⟨m, _, h1, h2, rfl⟩⟩⟩
      · exact hD' _ ⟨m0, n0, hs0, V0, rfl⟩
    rintro ρ ⟨m1, n1, hs1, V1, rfl⟩
    refine seq_to (fun ρ => ∃ m n, m.sg = l ∧ MV m n ∧ ρ = [.raw (.ref a), .bx u, .d (.int (i : Nat)), .d (.str (sg l)), .d m1.d, .d m.d, .un, .un]) (fun DP' hD' => ?_) ?_
    · simp? only [PL.z1]
      refine ⟨u, m1, n1, rfl, V1, fun m2 n2 V2 ml => ?_⟩
      exact ⟨trivial, hD' _ ⟨m2, n2, by rw [ml.1]; exact hs1, V2, rfl⟩⟩
    rintro ρ ⟨m2, n2, hs2, V2, rfl⟩
    refine seq_pass [.raw (.ref a), .bx u, .d (.int (i : Nat)), .d (.str (sg l)), .d m1.d, .d m2.d, .un, .un] (fun R hR => ?_) ?_
    · simp? only [PL.z1]
      refine ⟨shInt _, shInt _, m1, m2, n1, n2, _, rfl, ⟨V1, V2, hs1.trans hs2.symm⟩, ?_⟩
      simp? only [Bool.not_true]
      refine ⟨u, m2, n2, rfl, V2, fun m3 h1 V3 => ?_⟩
      simp? only [PL.z1]
      refine ⟨m1, m3, n1, n2, _, rfl, ⟨V1, V3, by rw [hs1, h1, hs2]⟩, ?_⟩
      simp? only [Bool.not_true]
      exact hR
    refine seq_pass [.raw (.ref a), .bx u, .d (.int (i : Nat)), .d (.str (sg l)), .d m1.d, .d m2.d, .un, .un] (fun R hR => ?_) ?_
    · simp? only [PL.z1]
      refine ⟨shInt _, shInt _, ?_⟩
      cases PyData.eqv (.int ((i : Nat) : Int)) (.int 3)
      · simp? only [PL.z1]
        exact hR
      · simp? only [PL.z1]
        refine ⟨u, l, 4, rfl, hL, ⟨by decide, by decide⟩, fun m n h1 h2 h3 => ?_⟩
        simp? only [PL.z1]
        refine ⟨m1, m, n1, n, _, rfl, ⟨V1, h2, by rw [hs1, h1]⟩, ?_⟩
        simp? only [Bool.not_true]
        exact hR
    refine one_pass [.raw (.ref a), .bx u, .d (.int (i : Nat)), .d (.str (sg l)), .d m1.d, .d m2.d, .un, .un] (fun R hR => ?_) ⟨.d (.int (i : Nat)), _, _, _, trivial, rfl⟩
    simp? only [PL.z1]
    refine ⟨shInt _, shInt _, ?_⟩
    cases PyData.eqv (.int ((i : Nat) : Int)) (.int 4)
    · simp? only [PL.z1]
      exact hR
    · simp? only [PL.z1]
      refine ⟨u, l, 7, rfl, hL, ⟨by decide, by decide⟩, fun m h1 h2 => ?_⟩
      simp? only [PL.z1]
      refine ⟨u, l, 8, rfl, hL, ⟨by decide, by decide⟩, fun m' h1' h2' => ?_⟩
      simp? only [PL.z1]
      refine ⟨m, m', _, _, _, rfl, ⟨h2, h2', by rw [h1, h1']⟩, ?_⟩
      simp? only [Bool.not_true]
      exact hR
  rintro ρ ⟨t2, t3, t4, t5, ht2, rfl⟩
  refine seq_to (fun ρ => ∃ wd : List Nat, (2 ≤ wd.length ∧ wd.length ≤ 5) ∧ (∀ c ∈ wd, c ∈ [97, 98]) ∧ ρ = [.raw (.ref a), .bx u, t2, t3, t4, t5, .d (.str (sg wd)), .un]) (fun DP hD => ?_) ?_
  · simp? only [PL.z1]
    refine lc_any [.raw (.ref a), .bx u, t2, t3, t4, t5, .un, .un] (fun ds => ∃ m : Nat, (2 ≤ m ∧ m ≤ 5) ∧ ds = rangeD 0 m) (fun R hR => ?_) fun ds ⟨m, hm, hds⟩ => ?_
    · simp? only [PL.z1]
      refine ⟨u, 4, rfl, ⟨by decide, by decide⟩, fun r r0 r1 => ⟨⟨by omega, by omega⟩, hR _ ⟨(2 + r).toNat, by omega, rfl⟩⟩⟩
    · subst hds
      refine picks (sgl := [97, 98]) m (barePl1 rfl ht2) (by omega) (fun d R hR => ?_) fun cs h1 h2 => ?_
      · simp? only [wipeP]
        refine ⟨u, .inr ⟨[97, 98], rfl, by decide, by decide, fun c hc => hR c hc _ rfl⟩⟩
      · simp? only [PL.z1]
        refine joinD cs (by omega) ?_
        exact ⟨trivial, hD _ ⟨cs, by omega, h2, rfl⟩⟩
  rintro ρ ⟨wd, hwl, hws, rfl⟩
  have wne : wd ≠ [] := fun e => by rw [e] at hwl; simp at hwl
  have wdne : wd.dropLast ≠ [] := fun e => by
    have := congrArg List.length e
    rw [List.length_dropLast] at this
    simp at this
    omega
  have wds : ∀ c ∈ wd.dropLast, c ∈ [97, 98] := fun c hc => hws c (List.dropLast_subset _ hc)
  refine seq_pass [.raw (.ref a), .bx u, t2, t3, t4, t5, .d (.str (sg wd)), .un] (fun R hR => ?_) ?_
  · have ec : cutS (sg wd) none (some (-1)) = sg wd.dropLast := by
      rw [sg_cut]
      have a1 : HT.sIx wd.length 0 none = 0 := rfl
      have a2 : HT.sIx wd.length wd.length (some (-1)) = wd.length - 1 := by
        simp [HT.sIx]
        omega
      rw [a1, a2, List.dropLast_eq_take]
      simp
    simp? only [ec, sg_len]
    have ab_ok : SgOk [97, 98] := lett_ab.ok
    refine ⟨[97, 98], wd, rfl, ⟨by decide, hws, wne⟩, ⟨by decide, by omega⟩, ab_ok, ?_⟩
    simp? only [ec, sg_len]
    refine ⟨szL (by omega), [97, 98], wd.dropLast, rfl, ⟨by decide, wds, wdne⟩, ⟨by decide, by rw [List.length_dropLast]; omega⟩, ab_ok, ?_⟩
    simp? only [PL.z1]
    refine ⟨wordM [97, 98] wd, wordM [97, 98] wd.dropLast, _, _, _, rfl, ⟨word_mv wne hws (by omega), word_mv wdne wds (by rw [List.length_dropLast]; omega), rfl⟩, ?_⟩
    simp? only [Bool.not_true]
    exact hR
  refine seq_to (fun ρ => ∃ m n, MV m n ∧ m.sg ≠ [97, 98] ∧ ρ = [.raw (.ref a), .bx u, t2, t3, t4, t5, .d (.str (sg wd)), .d m.d]) (fun DP hD => ?_) ?_
  · simp? only [PL.z1]
    refine ⟨szL (by decide), u, .inl ⟨_, rfl, by simp, by simp, fun d hd => ?_⟩⟩
    obtain ⟨l, rfl, hL, hne⟩ := lett_menu2 hd
    simp? only [PL.z1]
    exact ⟨u, l, 3, rfl, hL, ⟨by decide, by decide⟩, fun m n h1 h2 h3 => ⟨trivial, hD _ ⟨m, n, h2, by rw [h1]; exact hne, rfl⟩⟩⟩
  rintro ρ ⟨m1, n1, V1, hne, rfl⟩
  simp? only [PL.z1]
  refine ⟨u, [97, 98], 3, rfl, lett_ab, ⟨by decide, by decide⟩, fun m n h1 h2 h3 => ?_⟩
  simp? only [PL.z1]
  refine ⟨m1, m, n1, n, _, rfl, V1, h2, fun _ => ?_, fun z => (hne (z.trans h1)).elim⟩
  simp? only [PL.z1]
  refine ⟨m1, m1, n1, n1, _, rfl, V1, V1, fun z => (z rfl).elim, fun _ o ho => ?_⟩
  have eo : o = none := part_eq ho (show Part m1 m1 none from fun v _ q => q Iff.rfl)
  subst eo
  have st : Sm 3 400 (.list [.list [.str "unfit", .bool true], .list [.str "told", .none]]) := sm_list (k := 2) (n := 100) (all2 (sm_list (k := 1) (n := 40) (all2 (sm_str (by decide +kernel) (by decide)) sm_bool) (by simp)) (sm_list (k := 1) (n := 40) (all2 (sm_str (by decide +kernel) (by decide)) sm_none) (by simp))) (by simp)
  simp? only [rowO]
  refine ⟨szL (by decide), sm_repr (k := 3) (n := 400) st hu64 ?_⟩
  simp? only [PL.z1]
  refine ⟨szL (by decide), szL (by decide), szL (by decide), sm_repr (k := 3) (n := 400) st hu64 ?_⟩
  simp? only [decide_true]
  exact rfl
end
end C60

namespace C60
open PySem L2 PL
set_option maxRecDepth 100000
theorem all_mk {l : PySem.W.OpenLaw} {w : World} {K : PySem.W.Frag} {h : Heap} {mg : Str → Option Value} {fa f0 f1 f2 f3 f4 f5 f6 f7 f8 f9 f10 f11 f12 f13 f14 f15 f16 f17 f18 : Addr} (X : K.In h) (G : h.Ns mainGlobals mg) (hfa : mg "law" = some (.ref fa))
    {od0 an0 od1 an1 od2 an2 od3 an3 od4 an4 od5 an5 od6 an6 od7 an7 od8 an8 od9 an9 od10 an10 od11 an11 od12 an12 od13 an13 od14 an14 od15 an15 od16 an16 od17 an17 od18 an18 : Option Addr} {sl0 sl1 sl2 sl3 sl4 sl5 sl6 sl7 sl8 sl9 sl10 sl11 sl12 sl13 sl14 sl15 sl16 sl17 sl18 : Array (Option Value)} {oc0 kV0 dc0 pm0 cd0 ct0 oc1 kV1 dc1 pm1 cd1 ct1 oc2 kV2 dc2 pm2 cd2 ct2 oc3 kV3 dc3 pm3 cd3 ct3 oc4 kV4 dc4 pm4 cd4 ct4 oc5 kV5 dc5 pm5 cd5 ct5 oc6 kV6 dc6 pm6 cd6 ct6 oc7 kV7 dc7 pm7 cd7 ct7 oc8 kV8 dc8 pm8 cd8 ct8 oc9 kV9 dc9 pm9 cd9 ct9 oc10 kV10 dc10 pm10 cd10 ct10 oc11 kV11 dc11 pm11 cd11 ct11 oc12 kV12 dc12 pm12 cd12 ct12 oc13 kV13 dc13 pm13 cd13 ct13 oc14 kV14 dc14 pm14 cd14 ct14 oc15 kV15 dc15 pm15 cd15 ct15 oc16 kV16 dc16 pm16 cd16 ct16 oc17 kV17 dc17 pm17 cd17 ct17 oc18 kV18 dc18 pm18 cd18 ct18 : Value}
    (a0 : PySem.W.nsIn K mainGlobals "parted" = some (some (.ref f0))) (l0 : K.lookup f0 = some ⟨oc0, od0, .func (PySem.W.fnOf "parted" "parted" (defArgs sParted) (defBody sParted) (defScope sParted) .none kV0 dc0 pm0 an0 cd0 ct0), sl0⟩) (c0 : PySem.W.codeIn K cd0 "parted" = true) (k0 : PySem.W.keepIn K (.ref f0) = true)
    (a1 : PySem.W.nsIn K mainGlobals "least_of" = some (some (.ref f1))) (l1 : K.lookup f1 = some ⟨oc1, od1, .func (PySem.W.fnOf "least_of" "least_of" (defArgs sLeast) (defBody sLeast) (defScope sLeast) .none kV1 dc1 pm1 an1 cd1 ct1), sl1⟩) (c1 : PySem.W.codeIn K cd1 "least_of" = true) (k1 : PySem.W.keepIn K (.ref f1) = true)
    (a2 : PySem.W.nsIn K mainGlobals "least_machine" = some (some (.ref f2))) (l2 : K.lookup f2 = some ⟨oc2, od2, .func (PySem.W.fnOf "least_machine" "least_machine" (defArgs sLeastM) (defBody sLeastM) (defScope sLeastM) .none kV2 dc2 pm2 an2 cd2 ct2), sl2⟩) (c2 : PySem.W.codeIn K cd2 "least_machine" = true) (k2 : PySem.W.keepIn K (.ref f2) = true)
    (a3 : PySem.W.nsIn K mainGlobals "alike_machines" = some (some (.ref f3))) (l3 : K.lookup f3 = some ⟨oc3, od3, .func (PySem.W.fnOf "alike_machines" "alike_machines" (defArgs sAlike) (defBody sAlike) (defScope sAlike) .none kV3 dc3 pm3 an3 cd3 ct3), sl3⟩) (c3 : PySem.W.codeIn K cd3 "alike_machines" = true) (k3 : PySem.W.keepIn K (.ref f3) = true)
    (a4 : PySem.W.nsIn K mainGlobals "kept_beginning" = some (some (.ref f4))) (l4 : K.lookup f4 = some ⟨oc4, od4, .func (PySem.W.fnOf "kept_beginning" "kept_beginning" (defArgs sKept) (defBody sKept) (defScope sKept) .none kV4 dc4 pm4 an4 cd4 ct4), sl4⟩) (c4 : PySem.W.codeIn K cd4 "kept_beginning" = true) (k4 : PySem.W.keepIn K (.ref f4) = true)
    (a5 : PySem.W.nsIn K mainGlobals "word_machine" = some (some (.ref f5))) (l5 : K.lookup f5 = some ⟨oc5, od5, .func (PySem.W.fnOf "word_machine" "word_machine" (defArgs sWm) (defBody sWm) (defScope sWm) .none kV5 dc5 pm5 an5 cd5 ct5), sl5⟩) (c5 : PySem.W.codeIn K cd5 "word_machine" = true) (k5 : PySem.W.keepIn K (.ref f5) = true)
    (a6 : PySem.W.nsIn K mainGlobals "_law_urn" = some (some (.ref f6))) (l6 : K.lookup f6 = some ⟨oc6, od6, .func (PySem.W.fnOf "_law_urn" "_law_urn" (defArgs sUrn) (defBody sUrn) (defScope sUrn) .none kV6 dc6 pm6 an6 cd6 ct6), sl6⟩) (c6 : PySem.W.codeIn K cd6 "_law_urn" = true) (k6 : PySem.W.keepIn K (.ref f6) = true)
    (a7 : PySem.W.nsIn K mainGlobals "_law_take" = some (some (.ref f7))) (l7 : K.lookup f7 = some ⟨oc7, od7, .func (PySem.W.fnOf "_law_take" "_law_take" (defArgs sTake) (defBody sTake) (defScope sTake) .none kV7 dc7 pm7 an7 cd7 ct7), sl7⟩) (c7 : PySem.W.codeIn K cd7 "_law_take" = true) (k7 : PySem.W.keepIn K (.ref f7) = true)
    (a8 : PySem.W.nsIn K mainGlobals "_law_pick" = some (some (.ref f8))) (l8 : K.lookup f8 = some ⟨oc8, od8, .func (PySem.W.fnOf "_law_pick" "_law_pick" (defArgs sPick) (defBody sPick) (defScope sPick) .none kV8 dc8 pm8 an8 cd8 ct8), sl8⟩) (c8 : PySem.W.codeIn K cd8 "_law_pick" = true) (k8 : PySem.W.keepIn K (.ref f8) = true)
    (a9 : PySem.W.nsIn K mainGlobals "_law_machine" = some (some (.ref f9))) (l9 : K.lookup f9 = some ⟨oc9, od9, .func (PySem.W.fnOf "_law_machine" "_law_machine" (defArgs sMach) (defBody sMach) (defScope sMach) .none kV9 dc9 pm9 an9 cd9 ct9), sl9⟩) (c9 : PySem.W.codeIn K cd9 "_law_machine" = true) (k9 : PySem.W.keepIn K (.ref f9) = true)
    (a10 : PySem.W.nsIn K mainGlobals "_law_takes" = some (some (.ref f10))) (l10 : K.lookup f10 = some ⟨oc10, od10, .func (PySem.W.fnOf "_law_takes" "_law_takes" (defArgs sTakes) (defBody sTakes) (defScope sTakes) .none kV10 dc10 pm10 an10 cd10 ct10), sl10⟩) (c10 : PySem.W.codeIn K cd10 "_law_takes" = true) (k10 : PySem.W.keepIn K (.ref f10) = true)
    (a11 : PySem.W.nsIn K mainGlobals "_law_first" = some (some (.ref f11))) (l11 : K.lookup f11 = some ⟨oc11, od11, .func (PySem.W.fnOf "_law_first" "_law_first" (defArgs sFirst) (defBody sFirst) (defScope sFirst) .none kV11 dc11 pm11 an11 cd11 ct11), sl11⟩) (c11 : PySem.W.codeIn K cd11 "_law_first" = true) (k11 : PySem.W.keepIn K (.ref f11) = true)
    (a12 : PySem.W.nsIn K mainGlobals "_law_dressed" = some (some (.ref f12))) (l12 : K.lookup f12 = some ⟨oc12, od12, .func (PySem.W.fnOf "_law_dressed" "_law_dressed" (defArgs sDressed) (defBody sDressed) (defScope sDressed) .none kV12 dc12 pm12 an12 cd12 ct12), sl12⟩) (c12 : PySem.W.codeIn K cd12 "_law_dressed" = true) (k12 : PySem.W.keepIn K (.ref f12) = true)
    (a13 : PySem.W.nsIn K mainGlobals "_law_nearly" = some (some (.ref f13))) (l13 : K.lookup f13 = some ⟨oc13, od13, .func (PySem.W.fnOf "_law_nearly" "_law_nearly" (defArgs sNearly) (defBody sNearly) (defScope sNearly) .none kV13 dc13 pm13 an13 cd13 ct13), sl13⟩) (c13 : PySem.W.codeIn K cd13 "_law_nearly" = true) (k13 : PySem.W.keepIn K (.ref f13) = true)
    (a14 : PySem.W.nsIn K mainGlobals "_law_ring" = some (some (.ref f14))) (l14 : K.lookup f14 = some ⟨oc14, od14, .func (PySem.W.fnOf "_law_ring" "_law_ring" (defArgs sRing) (defBody sRing) (defScope sRing) .none kV14 dc14 pm14 an14 cd14 ct14), sl14⟩) (c14 : PySem.W.codeIn K cd14 "_law_ring" = true) (k14 : PySem.W.keepIn K (.ref f14) = true)
    (a15 : PySem.W.nsIn K mainGlobals "_law_told" = some (some (.ref f15))) (l15 : K.lookup f15 = some ⟨oc15, od15, .func (PySem.W.fnOf "_law_told" "_law_told" (defArgs sTold) (defBody sTold) (defScope sTold) .none kV15 dc15 pm15 an15 cd15 ct15), sl15⟩) (c15 : PySem.W.codeIn K cd15 "_law_told" = true) (k15 : PySem.W.keepIn K (.ref f15) = true)
    (a16 : PySem.W.nsIn K mainGlobals "_law_are_ahead" = some (some (.ref f16))) (l16 : K.lookup f16 = some ⟨oc16, od16, .func (PySem.W.fnOf "_law_are_ahead" "_law_are_ahead" (defArgs sAhead) (defBody sAhead) (defScope sAhead) .none kV16 dc16 pm16 an16 cd16 ct16), sl16⟩) (c16 : PySem.W.codeIn K cd16 "_law_are_ahead" = true) (k16 : PySem.W.keepIn K (.ref f16) = true)
    (a17 : PySem.W.nsIn K mainGlobals "_law_is_right" = some (some (.ref f17))) (l17 : K.lookup f17 = some ⟨oc17, od17, .func (PySem.W.fnOf "_law_is_right" "_law_is_right" (defArgs sIsRight) (defBody sIsRight) (defScope sIsRight) .none kV17 dc17 pm17 an17 cd17 ct17), sl17⟩) (c17 : PySem.W.codeIn K cd17 "_law_is_right" = true) (k17 : PySem.W.keepIn K (.ref f17) = true)
    (a18 : PySem.W.nsIn K mainGlobals "law" = some (some (.ref f18))) (l18 : K.lookup f18 = some ⟨oc18, od18, .func (PySem.W.fnOf "law" "law" (defArgs sLaw) (defBody sLaw) (defScope sLaw) .none kV18 dc18 pm18 an18 cd18 ct18), sl18⟩) (c18 : PySem.W.codeIn K cd18 "law" = true) (k18 : PySem.W.keepIn K (.ref f18) = true)
    (z0 : PySem.W.nsIn K mainGlobals "len" = some none)
    (z1 : PySem.W.nsIn K mainGlobals "int" = some none)
    (z2 : PySem.W.nsIn K mainGlobals "abs" = some none)
    (z3 : PySem.W.nsIn K mainGlobals "range" = some none)
    (z4 : PySem.W.nsIn K mainGlobals "enumerate" = some none)
    (z5 : PySem.W.nsIn K mainGlobals "sorted" = some none)
    (z6 : PySem.W.nsIn K mainGlobals "set" = some none)
    (z7 : PySem.W.nsIn K mainGlobals "tuple" = some none)
    (z8 : PySem.W.nsIn K mainGlobals "list" = some none)
    (z9 : PySem.W.nsIn K mainGlobals "zip" = some none)
    (z10 : PySem.W.nsIn K mainGlobals "min" = some none)
    (z11 : PySem.W.nsIn K mainGlobals "repr" = some none)
    {AChainError : Addr}
    (eB : PySem.W.nsIn K mainGlobals "ChainError" = some (some (.ref AChainError)))
    (eT : PySem.W.nsIn K cStatics "thirdparty.any" = some none)
    (eS : PySem.W.nsIn K mainGlobals "super" = some none)
    (eP : (l.prog.main.scope.names.lookup ("super" : Str)).isSome = false)
    (eNValueError : PySem.W.nsIn K mainGlobals "ValueError" = some none)
    (eNisinstance : PySem.W.nsIn K mainGlobals "isinstance" = some none)
    {AUnfit fIUnfit caUnfit ccUnfit : Addr} {cdUnfit : ClassData} {ocUnfit kVUnfit doUnfit pmUnfit ctUnfit clUnfit cvUnfit : Value} {odUnfit anUnfit ceUnfit cfUnfit : Option Addr} {osUnfit csUnfit ct_Unfit : Array (Option Value)} {vsUnfit : Array Value} {flUnfit : Str} {tfUnfit : Tok}
    (gUnfit : PySem.W.nsIn K mainGlobals "Unfit" = some (some (.ref AUnfit)))
    (xUnfit : PySem.W.excInitIn K AUnfit veMro "ValueError.__new__" = true)
    (iUnfit : PySem.W.findIn K (.ref AUnfit) "__init__" = some (some (.ref fIUnfit)))
    (tUnfit : PySem.W.typeIn K (.ref fIUnfit) = some (.type "function"))
    (kUnfit : PySem.W.keepIn K (.ref AUnfit) = true)
    (cUnfit : PySem.W.clsIn K AUnfit = some cdUnfit)
    (mUnfit : PySem.W.mroIn K AUnfit (.ref AUnfit) = some true)
    (sUnfit : PySem.W.ks_superIn K AUnfit AUnfit "__init__" = some (some (.builtin "ValueError.__init__")))
    (vUnfit : PySem.W.subIn K (.ref AUnfit) (.type "ValueError") = some true)
    (bUnfit : PySem.W.subIn K (.ref AUnfit) (.type "BaseException") = some true)
    (yUnfit : PySem.W.typeIn K (.ref AUnfit) = some (.type "type"))
    (lUnfit : K.lookup fIUnfit = some ⟨ocUnfit, odUnfit, .func (PySem.W.ksFn "__init__" "Unfit.__init__" (defArgs sIUnfit) (defBody sIUnfit) (defScope sIUnfit) .none kVUnfit doUnfit pmUnfit anUnfit (.ref caUnfit) ctUnfit ccUnfit), osUnfit⟩)
    (oUnfit : PySem.W.codeIn K (.ref caUnfit) "Unfit.__init__" = true)
    (dUnfit : K.lookup caUnfit = some ⟨clUnfit, ceUnfit, .fields vsUnfit, csUnfit⟩)
    (fUnfit : vsUnfit[2]? = some (.str flUnfit tfUnfit))
    (FUnfit : ((l.prog.main.file : Str) == flUnfit) = true)
    (eUnfit : K.lookup ccUnfit = some ⟨cvUnfit, cfUnfit, .cell (some (.ref AUnfit)), ct_Unfit⟩)
    (q1Unfit : PySem.W.findIn K (.ref AUnfit) "__getattribute__" = some (some (.builtin "BaseException.__getattribute__")))
    (q2Unfit : PySem.W.findIn K (.ref AUnfit) "__getattr__" = some none)
    (q4Unfit : PySem.W.hasDictIn K AUnfit = true)
    (q5Unfit : PySem.W.findIn K (.ref AUnfit) "__class__" = some (some (.builtin "object.__class__")))
    (q6Unfit : PySem.W.specialIn K (.builtin "object.__class__") "__get__" = some (some (.builtin "getset_descriptor.__get__")))
    (q7Unfit : PySem.W.takesIn K (.builtin "object.__class__") = some true)
    (q8Unfit : PySem.W.mroIn K AUnfit (.type "object") = some true)
    (u1Unfit : PySem.W.kitOne K (.ref AUnfit) (.ref AChainError) = some true)
    (u2Unfit : PySem.W.kitOne K (.ref AUnfit) (.type "ValueError") = some true)
    (wUnfitUnfit : PySem.W.subIn K (.ref AUnfit) (.ref AUnfit) = some true)
    : ∀ base : Heap, K.In base → base.Ns mainGlobals mg → RunAt l.prog w K mg base CX0 fa (spLaw K) := by
  intro base _ _
  have e := hfa.symm.trans (PySem.W.mg_of X G a18)
  cases e
  have Z_len := PySem.W.mg_none_of X G z0
  have Z_int := PySem.W.mg_none_of X G z1
  have Z_abs := PySem.W.mg_none_of X G z2
  have Z_range := PySem.W.mg_none_of X G z3
  have Z_enumerate := PySem.W.mg_none_of X G z4
  have Z_sorted := PySem.W.mg_none_of X G z5
  have Z_set := PySem.W.mg_none_of X G z6
  have Z_tuple := PySem.W.mg_none_of X G z7
  have Z_list := PySem.W.mg_none_of X G z8
  have Z_zip := PySem.W.mg_none_of X G z9
  have Z_min := PySem.W.mg_none_of X G z10
  have Z_repr := PySem.W.mg_none_of X G z11
  have S_Unfit : SupC l.prog K AUnfit fIUnfit "Unfit.__init__" (defArgs sIUnfit) (defBody sIUnfit) (defScope sIUnfit) := ⟨xUnfit, iUnfit, tUnfit, kUnfit, ⟨_, cUnfit⟩, mUnfit, sUnfit, vUnfit, bUnfit, yUnfit, eT, eS, eP, ⟨_, _, _, _, _, _, _, _, _, _, _, _, _, _, _, _, _, _, _, lUnfit, oUnfit, dUnfit, fUnfit, FUnfit, eUnfit⟩⟩
  have Z : Errs l.prog K mg AUnfit AChainError := { g_ChainError := PySem.W.mg_of X G eB, n_ValueError := PySem.W.mg_none_of X G eNValueError, n_isinstance := PySem.W.mg_none_of X G eNisinstance, g_Unfit := PySem.W.mg_of X G gUnfit, x_Unfit := ⟨q1Unfit, q2Unfit, bUnfit, q4Unfit, q5Unfit, q6Unfit, q7Unfit, q8Unfit⟩, k_Unfit_ChainError := u1Unfit, k_Unfit_ValueError := u2Unfit, mk_Unfit := mkUnfit S_Unfit, e_Unfit_Unfit := PySem.W.exm_ref bUnfit q4Unfit yUnfit wUnfitUnfit }
  have TX : Tx mg := ⟨Z_len, Z_int, Z_abs⟩
  have T : Ty2 mg := ⟨Z_len, Z_int, Z_abs, Z_range, Z_enumerate, Z_sorted, Z_set, Z_tuple, Z_list, Z_zip, Z_min, Z_repr⟩
  have F0 := fun_mk (st := sParted) l0 c0 k0
  have m0 := PySem.W.mg_of X G a0
  have b0 := F0.binds (ps := ["steps", "ends"]) fun _ _ _ _ _ _ us hl => match us, hl with | [_, _], _ => rfl
  have G_parted : Cal l.prog w K mg base urnBox 1 "parted" ["steps", "ends"] 2 partedF := ⟨⟨f0, _, m0, k0, b0, ok_parted F0 T⟩, (by intro ts Q h; first | (obtain ⟨_, rfl, _⟩ := h; rfl; done) | (obtain ⟨_, _, rfl, _⟩ := h; rfl; done) | (obtain ⟨_, _, _, rfl, _⟩ := h; rfl; done) | (obtain ⟨_, _, _, _, rfl, _⟩ := h; rfl; done) | (obtain ⟨_, _, _, _, _, rfl, _⟩ := h; rfl; done) | (obtain ⟨_, _, _, _, _, _, rfl, _⟩ := h; rfl; done) | (obtain ⟨_, h⟩ := h; rcases h with ⟨_, rfl, _⟩ | ⟨_, rfl, _⟩ <;> rfl))⟩
  have F1 := fun_mk (st := sLeast) l1 c1 k1
  have m1 := PySem.W.mg_of X G a1
  have b1 := F1.binds (ps := ["signs", "begin", "steps", "ends"]) fun _ _ _ _ _ _ us hl => match us, hl with | [_, _, _, _], _ => rfl
  have G_least_of : Cal l.prog w K mg base urnBox 2 "least_of" ["signs", "begin", "steps", "ends"] 4 leastF := ⟨⟨f1, _, m1, k1, b1, ok_least F1 T ⟨G_parted⟩⟩, (by intro ts Q h; first | (obtain ⟨_, rfl, _⟩ := h; rfl; done) | (obtain ⟨_, _, rfl, _⟩ := h; rfl; done) | (obtain ⟨_, _, _, rfl, _⟩ := h; rfl; done) | (obtain ⟨_, _, _, _, rfl, _⟩ := h; rfl; done) | (obtain ⟨_, _, _, _, _, rfl, _⟩ := h; rfl; done) | (obtain ⟨_, _, _, _, _, _, rfl, _⟩ := h; rfl; done) | (obtain ⟨_, h⟩ := h; rcases h with ⟨_, rfl, _⟩ | ⟨_, rfl, _⟩ <;> rfl))⟩
  have F2 := fun_mk (st := sLeastM) l2 c2 k2
  have m2 := PySem.W.mg_of X G a2
  have b2 := F2.binds (ps := ["machine"]) fun _ _ _ _ _ _ us hl => match us, hl with | [_], _ => rfl
  have G_least_machine : Cal l.prog w K mg base urnBox 3 "least_machine" ["machine"] 1 leastMF := ⟨⟨f2, _, m2, k2, b2, ok_leastM F2 ⟨G_least_of⟩⟩, (by intro ts Q h; first | (obtain ⟨_, rfl, _⟩ := h; rfl; done) | (obtain ⟨_, _, rfl, _⟩ := h; rfl; done) | (obtain ⟨_, _, _, rfl, _⟩ := h; rfl; done) | (obtain ⟨_, _, _, _, rfl, _⟩ := h; rfl; done) | (obtain ⟨_, _, _, _, _, rfl, _⟩ := h; rfl; done) | (obtain ⟨_, _, _, _, _, _, rfl, _⟩ := h; rfl; done) | (obtain ⟨_, h⟩ := h; rcases h with ⟨_, rfl, _⟩ | ⟨_, rfl, _⟩ <;> rfl))⟩
  have F3 := fun_mk (st := sAlike) l3 c3 k3
  have m3 := PySem.W.mg_of X G a3
  have b3 := F3.binds (ps := ["one", "other"]) fun _ _ _ _ _ _ us hl => match us, hl with | [_, _], _ => rfl
  have G_alike_machines : CalX l.prog w K mg base urnBox 2 "alike_machines" ["one", "other"] 2 (alikeX AUnfit) := ⟨⟨f3, _, m3, k3, b3, ok_alike F3 T Z⟩, (by intro ts Q E h; first | (obtain ⟨_, rfl, _⟩ := h; rfl; done) | (obtain ⟨_, _, rfl, _⟩ := h; rfl; done) | (obtain ⟨_, _, _, rfl, _⟩ := h; rfl; done) | (obtain ⟨_, _, _, _, rfl, _⟩ := h; rfl; done) | (obtain ⟨_, _, _, _, _, rfl, _⟩ := h; rfl; done) | (obtain ⟨_, _, _, _, _, _, rfl, _⟩ := h; rfl; done) | (obtain ⟨_, h⟩ := h; rcases h with ⟨_, rfl, _⟩ | ⟨_, rfl, _⟩ <;> rfl))⟩
  have G_alike_machines_k_other_one : CalKX l.prog w K mg base urnBox 2 "alike_machines" ["one", "other"] 2 (alikeX AUnfit) ["other", "one"] 0 [1, 0] := ⟨⟨f3, _, m3, k3, funKB F3 (by decide) (fun _ _ _ _ _ _ us ws hu hw => match us, ws, hu, hw with | [], [_, _], _, _ => rfl), ok_alike F3 T Z⟩, (by intro ts Q E h; first | (obtain ⟨_, rfl, _⟩ := h; rfl; done) | (obtain ⟨_, _, rfl, _⟩ := h; rfl; done) | (obtain ⟨_, _, _, rfl, _⟩ := h; rfl; done) | (obtain ⟨_, _, _, _, rfl, _⟩ := h; rfl; done) | (obtain ⟨_, _, _, _, _, rfl, _⟩ := h; rfl; done) | (obtain ⟨_, _, _, _, _, _, rfl, _⟩ := h; rfl; done) | (obtain ⟨_, h⟩ := h; rcases h with ⟨_, rfl, _⟩ | ⟨_, rfl, _⟩ <;> rfl))⟩
  have F4 := fun_mk (st := sKept) l4 c4 k4
  have m4 := PySem.W.mg_of X G a4
  have b4 := F4.binds (ps := ["word", "row"]) fun _ _ _ _ _ _ us hl => match us, hl with | [_, _], _ => rfl
  have G_kept_beginning : Cal l.prog w K mg base urnBox 1 "kept_beginning" ["word", "row"] 2 keptF := ⟨⟨f4, _, m4, k4, b4, ok_kept F4 T⟩, (by intro ts Q h; first | (obtain ⟨_, rfl, _⟩ := h; rfl; done) | (obtain ⟨_, _, rfl, _⟩ := h; rfl; done) | (obtain ⟨_, _, _, rfl, _⟩ := h; rfl; done) | (obtain ⟨_, _, _, _, rfl, _⟩ := h; rfl; done) | (obtain ⟨_, _, _, _, _, rfl, _⟩ := h; rfl; done) | (obtain ⟨_, _, _, _, _, _, rfl, _⟩ := h; rfl; done) | (obtain ⟨_, h⟩ := h; rcases h with ⟨_, rfl, _⟩ | ⟨_, rfl, _⟩ <;> rfl))⟩
  have F5 := fun_mk (st := sWm) l5 c5 k5
  have m5 := PySem.W.mg_of X G a5
  have b5 := F5.binds (ps := ["signs", "word"]) fun _ _ _ _ _ _ us hl => match us, hl with | [_, _], _ => rfl
  have G_word_machine : Cal l.prog w K mg base urnBox 3 "word_machine" ["signs", "word"] 2 wmF := ⟨⟨f5, _, m5, k5, b5, ok_wm F5 T ⟨⟨G_least_of⟩, G_kept_beginning⟩⟩, (by intro ts Q h; first | (obtain ⟨_, rfl, _⟩ := h; rfl; done) | (obtain ⟨_, _, rfl, _⟩ := h; rfl; done) | (obtain ⟨_, _, _, rfl, _⟩ := h; rfl; done) | (obtain ⟨_, _, _, _, rfl, _⟩ := h; rfl; done) | (obtain ⟨_, _, _, _, _, rfl, _⟩ := h; rfl; done) | (obtain ⟨_, _, _, _, _, _, rfl, _⟩ := h; rfl; done) | (obtain ⟨_, h⟩ := h; rcases h with ⟨_, rfl, _⟩ | ⟨_, rfl, _⟩ <;> rfl))⟩
  have F6 := fun_mk (st := sUrn) l6 c6 k6
  have m6 := PySem.W.mg_of X G a6
  have b6 := F6.binds (ps := ["script"]) fun _ _ _ _ _ _ us hl => match us, hl with | [_], _ => rfl
  have G__law_urn := (⟨f6, _, m6, k6, b6, ok_urn F6 TX⟩ : ∃ f fd, mg "_law_urn" = some (.ref f) ∧ PySem.W.keepIn K (.ref f) = true ∧ Binds K fd ["script"] [] ∧ FnOk l.prog w K mg base CX0 1 f fd ["script"] (spUrn K))
  have F7 := fun_mk (st := sTake) l7 c7 k7
  have m7 := PySem.W.mg_of X G a7
  have b7 := F7.binds (ps := ["urn", "many"]) fun _ _ _ _ _ _ us hl => match us, hl with | [_, _], _ => rfl
  have G__law_take : Cal l.prog w K mg base urnBox 1 "_law_take" ["urn", "many"] 2 takeF := ⟨⟨f7, _, m7, k7, b7, fnG_of (ok_take F7 TX)⟩, (by intro ts Q h; first | (obtain ⟨_, rfl, _⟩ := h; rfl; done) | (obtain ⟨_, _, rfl, _⟩ := h; rfl; done) | (obtain ⟨_, _, _, rfl, _⟩ := h; rfl; done) | (obtain ⟨_, _, _, _, rfl, _⟩ := h; rfl; done) | (obtain ⟨_, _, _, _, _, rfl, _⟩ := h; rfl; done) | (obtain ⟨_, _, _, _, _, _, rfl, _⟩ := h; rfl; done) | (obtain ⟨_, h⟩ := h; rcases h with ⟨_, rfl, _⟩ | ⟨_, rfl, _⟩ <;> rfl))⟩
  have F8 := fun_mk (st := sPick) l8 c8 k8
  have m8 := PySem.W.mg_of X G a8
  have b8 := F8.binds (ps := ["urn", "menu"]) fun _ _ _ _ _ _ us hl => match us, hl with | [_, _], _ => rfl
  have G__law_pick : Cal l.prog w K mg base urnBox 2 "_law_pick" ["urn", "menu"] 2 pickF := ⟨⟨f8, _, m8, k8, b8, ok_pick F8 T ⟨G__law_take⟩⟩, (by intro ts Q h; first | (obtain ⟨_, rfl, _⟩ := h; rfl; done) | (obtain ⟨_, _, rfl, _⟩ := h; rfl; done) | (obtain ⟨_, _, _, rfl, _⟩ := h; rfl; done) | (obtain ⟨_, _, _, _, rfl, _⟩ := h; rfl; done) | (obtain ⟨_, _, _, _, _, rfl, _⟩ := h; rfl; done) | (obtain ⟨_, _, _, _, _, _, rfl, _⟩ := h; rfl; done) | (obtain ⟨_, h⟩ := h; rcases h with ⟨_, rfl, _⟩ | ⟨_, rfl, _⟩ <;> rfl))⟩
  have F9 := fun_mk (st := sMach) l9 c9 k9
  have m9 := PySem.W.mg_of X G a9
  have b9 := F9.binds (ps := ["urn", "letters", "most"]) fun _ _ _ _ _ _ us hl => match us, hl with | [_, _, _], _ => rfl
  have G__law_machine : Cal l.prog w K mg base urnBox 2 "_law_machine" ["urn", "letters", "most"] 3 machF := ⟨⟨f9, _, m9, k9, b9, ok_mach F9 T ⟨G__law_take⟩⟩, (by intro ts Q h; first | (obtain ⟨_, rfl, _⟩ := h; rfl; done) | (obtain ⟨_, _, rfl, _⟩ := h; rfl; done) | (obtain ⟨_, _, _, rfl, _⟩ := h; rfl; done) | (obtain ⟨_, _, _, _, rfl, _⟩ := h; rfl; done) | (obtain ⟨_, _, _, _, _, rfl, _⟩ := h; rfl; done) | (obtain ⟨_, _, _, _, _, _, rfl, _⟩ := h; rfl; done) | (obtain ⟨_, h⟩ := h; rcases h with ⟨_, rfl, _⟩ | ⟨_, rfl, _⟩ <;> rfl))⟩
  have F10 := fun_mk (st := sTakes) l10 c10 k10
  have m10 := PySem.W.mg_of X G a10
  have b10 := F10.binds (ps := ["machine", "row"]) fun _ _ _ _ _ _ us hl => match us, hl with | [_, _], _ => rfl
  have G__law_takes : Cal l.prog w K mg base urnBox 1 "_law_takes" ["machine", "row"] 2 takesF := ⟨⟨f10, _, m10, k10, b10, ok_takes F10 ⟩, (by intro ts Q h; first | (obtain ⟨_, rfl, _⟩ := h; rfl; done) | (obtain ⟨_, _, rfl, _⟩ := h; rfl; done) | (obtain ⟨_, _, _, rfl, _⟩ := h; rfl; done) | (obtain ⟨_, _, _, _, rfl, _⟩ := h; rfl; done) | (obtain ⟨_, _, _, _, _, rfl, _⟩ := h; rfl; done) | (obtain ⟨_, _, _, _, _, _, rfl, _⟩ := h; rfl; done) | (obtain ⟨_, h⟩ := h; rcases h with ⟨_, rfl, _⟩ | ⟨_, rfl, _⟩ <;> rfl))⟩
  have F11 := fun_mk (st := sFirst) l11 c11 k11
  have m11 := PySem.W.mg_of X G a11
  have b11 := F11.binds (ps := ["one", "other"]) fun _ _ _ _ _ _ us hl => match us, hl with | [_, _], _ => rfl
  have G__law_first : Cal l.prog w K mg base urnBox 1 "_law_first" ["one", "other"] 2 firstF := ⟨⟨f11, _, m11, k11, b11, ok_first F11 T⟩, (by intro ts Q h; first | (obtain ⟨_, rfl, _⟩ := h; rfl; done) | (obtain ⟨_, _, rfl, _⟩ := h; rfl; done) | (obtain ⟨_, _, _, rfl, _⟩ := h; rfl; done) | (obtain ⟨_, _, _, _, rfl, _⟩ := h; rfl; done) | (obtain ⟨_, _, _, _, _, rfl, _⟩ := h; rfl; done) | (obtain ⟨_, _, _, _, _, _, rfl, _⟩ := h; rfl; done) | (obtain ⟨_, h⟩ := h; rcases h with ⟨_, rfl, _⟩ | ⟨_, rfl, _⟩ <;> rfl))⟩
  have F12 := fun_mk (st := sDressed) l12 c12 k12
  have m12 := PySem.W.mg_of X G a12
  have b12 := F12.binds (ps := ["urn", "machine"]) fun _ _ _ _ _ _ us hl => match us, hl with | [_, _], _ => rfl
  have G__law_dressed : Cal l.prog w K mg base urnBox 2 "_law_dressed" ["urn", "machine"] 2 dressedF := ⟨⟨f12, _, m12, k12, b12, ok_dressed F12 T ⟨G__law_take⟩⟩, (by intro ts Q h; first | (obtain ⟨_, rfl, _⟩ := h; rfl; done) | (obtain ⟨_, _, rfl, _⟩ := h; rfl; done) | (obtain ⟨_, _, _, rfl, _⟩ := h; rfl; done) | (obtain ⟨_, _, _, _, rfl, _⟩ := h; rfl; done) | (obtain ⟨_, _, _, _, _, rfl, _⟩ := h; rfl; done) | (obtain ⟨_, _, _, _, _, _, rfl, _⟩ := h; rfl; done) | (obtain ⟨_, h⟩ := h; rcases h with ⟨_, rfl, _⟩ | ⟨_, rfl, _⟩ <;> rfl))⟩
  have F13 := fun_mk (st := sNearly) l13 c13 k13
  have m13 := PySem.W.mg_of X G a13
  have b13 := F13.binds (ps := ["urn", "machine"]) fun _ _ _ _ _ _ us hl => match us, hl with | [_, _], _ => rfl
  have G__law_nearly : Cal l.prog w K mg base urnBox 2 "_law_nearly" ["urn", "machine"] 2 nearlyF := ⟨⟨f13, _, m13, k13, b13, ok_nearly F13 T ⟨G__law_take⟩⟩, (by intro ts Q h; first | (obtain ⟨_, rfl, _⟩ := h; rfl; done) | (obtain ⟨_, _, rfl, _⟩ := h; rfl; done) | (obtain ⟨_, _, _, rfl, _⟩ := h; rfl; done) | (obtain ⟨_, _, _, _, rfl, _⟩ := h; rfl; done) | (obtain ⟨_, _, _, _, _, rfl, _⟩ := h; rfl; done) | (obtain ⟨_, _, _, _, _, _, rfl, _⟩ := h; rfl; done) | (obtain ⟨_, h⟩ := h; rcases h with ⟨_, rfl, _⟩ | ⟨_, rfl, _⟩ <;> rfl))⟩
  have F14 := fun_mk (st := sRing) l14 c14 k14
  have m14 := PySem.W.mg_of X G a14
  have b14 := F14.binds (ps := ["urn", "letters", "many"]) fun _ _ _ _ _ _ us hl => match us, hl with | [_, _, _], _ => rfl
  have G__law_ring : Cal l.prog w K mg base urnBox 2 "_law_ring" ["urn", "letters", "many"] 3 ringF := ⟨⟨f14, _, m14, k14, b14, ok_ring F14 T ⟨G__law_take⟩⟩, (by intro ts Q h; first | (obtain ⟨_, rfl, _⟩ := h; rfl; done) | (obtain ⟨_, _, rfl, _⟩ := h; rfl; done) | (obtain ⟨_, _, _, rfl, _⟩ := h; rfl; done) | (obtain ⟨_, _, _, _, rfl, _⟩ := h; rfl; done) | (obtain ⟨_, _, _, _, _, rfl, _⟩ := h; rfl; done) | (obtain ⟨_, _, _, _, _, _, rfl, _⟩ := h; rfl; done) | (obtain ⟨_, h⟩ := h; rcases h with ⟨_, rfl, _⟩ | ⟨_, rfl, _⟩ <;> rfl))⟩
  have F15 := fun_mk (st := sTold) l15 c15 k15
  have m15 := PySem.W.mg_of X G a15
  have b15 := F15.binds (ps := ["one", "other", "is_named"]) fun _ _ _ _ _ _ us hl => match us, hl with | [_, _, _], _ => rfl
  have G__law_told : Cal l.prog w K mg base urnBox 3 "_law_told" ["one", "other", "is_named"] 3 toldF := ⟨⟨f15, _, m15, k15, b15, ok_told F15 Z ⟨G_alike_machines, G_alike_machines_k_other_one⟩⟩, (by intro ts Q h; first | (obtain ⟨_, rfl, _⟩ := h; rfl; done) | (obtain ⟨_, _, rfl, _⟩ := h; rfl; done) | (obtain ⟨_, _, _, rfl, _⟩ := h; rfl; done) | (obtain ⟨_, _, _, _, rfl, _⟩ := h; rfl; done) | (obtain ⟨_, _, _, _, _, rfl, _⟩ := h; rfl; done) | (obtain ⟨_, _, _, _, _, _, rfl, _⟩ := h; rfl; done) | (obtain ⟨_, h⟩ := h; rcases h with ⟨_, rfl, _⟩ | ⟨_, rfl, _⟩ <;> rfl))⟩
  have F16 := fun_mk (st := sAhead) l16 c16 k16
  have m16 := PySem.W.mg_of X G a16
  have b16 := F16.binds (ps := ["one", "other", "row"]) fun _ _ _ _ _ _ us hl => match us, hl with | [_, _, _], _ => rfl
  have G__law_are_ahead : Cal l.prog w K mg base urnBox 2 "_law_are_ahead" ["one", "other", "row"] 3 aheadF := ⟨⟨f16, _, m16, k16, b16, ok_ahead F16 T ⟨G__law_takes⟩⟩, (by intro ts Q h; first | (obtain ⟨_, rfl, _⟩ := h; rfl; done) | (obtain ⟨_, _, rfl, _⟩ := h; rfl; done) | (obtain ⟨_, _, _, rfl, _⟩ := h; rfl; done) | (obtain ⟨_, _, _, _, rfl, _⟩ := h; rfl; done) | (obtain ⟨_, _, _, _, _, rfl, _⟩ := h; rfl; done) | (obtain ⟨_, _, _, _, _, _, rfl, _⟩ := h; rfl; done) | (obtain ⟨_, h⟩ := h; rcases h with ⟨_, rfl, _⟩ | ⟨_, rfl, _⟩ <;> rfl))⟩
  have F17 := fun_mk (st := sIsRight) l17 c17 k17
  have m17 := PySem.W.mg_of X G a17
  have b17 := F17.binds (ps := ["one", "other", "is_named"]) fun _ _ _ _ _ _ us hl => match us, hl with | [_, _, _], _ => rfl
  have G__law_is_right : Cal l.prog w K mg base urnBox 4 "_law_is_right" ["one", "other", "is_named"] 3 isRightF := ⟨⟨f17, _, m17, k17, b17, ok_isRight F17 T ⟨G__law_first, G__law_told, G_least_machine, G__law_takes, G__law_are_ahead⟩⟩, (by intro ts Q h; first | (obtain ⟨_, rfl, _⟩ := h; rfl; done) | (obtain ⟨_, _, rfl, _⟩ := h; rfl; done) | (obtain ⟨_, _, _, rfl, _⟩ := h; rfl; done) | (obtain ⟨_, _, _, _, rfl, _⟩ := h; rfl; done) | (obtain ⟨_, _, _, _, _, rfl, _⟩ := h; rfl; done) | (obtain ⟨_, _, _, _, _, _, rfl, _⟩ := h; rfl; done) | (obtain ⟨_, h⟩ := h; rcases h with ⟨_, rfl, _⟩ | ⟨_, rfl, _⟩ <;> rfl))⟩
  have F18 := fun_mk (st := sLaw) l18 c18 k18
  exact ok_law F18 (fun s v => .of_eq rfl) T ⟨G__law_urn, G__law_take, G__law_pick, G__law_machine, G__law_ring, G__law_dressed, G__law_nearly, G__law_is_right, G__law_told, G_word_machine⟩
theorem walk {l : PySem.W.OpenLaw} {q : Program} {loose : List Str} {XP : (Str → Option Value) → Heap → Prop} {YP : World → Heap → Prop} {d : DefRec} {K : Params → PySem.W.Frag} (hn : l.most = some 63) (hdf : d.params.defaults = [])
    (hY : ∀ (w : World) (h : Heap), YP w h → (K w.params).In h)
    (F : ∀ (w : World) (mg : Str → Option Value) (fa : Addr) (h : Heap), (K w.params).In h → h.Ns mainGlobals mg → mg d.name = some (.ref fa) → ∀ base : Heap, (K w.params).In base → base.Ns mainGlobals mg → RunAt l.prog w (K w.params) mg base CX0 fa (spLaw (K w.params))) :
    PySem.W.WalkO q loose XP YP l.row.toRowW d [] (fun f vs => PySem.call f vs) :=
  walkAt (n := 63) (CX := fun _ => CX0) (sp := fun w => spLaw (K w.params)) hn (by decide) hdf hY F (fun w H a ns hl _ hS => ⟨a, ns, rfl, hS, hl, fun _ => rfl⟩) fun _ _ _ _ _ z => z
end C60
open PySem PySem.W PyProof.Rows
set_option maxRecDepth 100000 in
set_option maxHeartbeats 0 in
theorem PySem.Challenge.cw_veiledchains_k60_whole_machines_that_tak_holds : PySem.Challenge.rw_veiledchains_k60_whole_machines_that_tak.Holds := by
  w_on; o_law; k_head; (case hw => w_witness2)
  k_fill
  refine C60.walk (l := PySem.Challenge.rw_veiledchains_k60_whole_machines_that_tak) rfl rfl (fun w h Y => PySem.W.kIn_of Y) ?F
  case F =>
    intro w mg fa h KX G hmg
    refine' C60.all_mk KX G hmg ?a0 ?l0 ?c0 ?k0 ?a1 ?l1 ?c1 ?k1 ?a2 ?l2 ?c2 ?k2 ?a3 ?l3 ?c3 ?k3 ?a4 ?l4 ?c4 ?k4 ?a5 ?l5 ?c5 ?k5 ?a6 ?l6 ?c6 ?k6 ?a7 ?l7 ?c7 ?k7 ?a8 ?l8 ?c8 ?k8 ?a9 ?l9 ?c9 ?k9 ?a10 ?l10 ?c10 ?k10 ?a11 ?l11 ?c11 ?k11 ?a12 ?l12 ?c12 ?k12 ?a13 ?l13 ?c13 ?k13 ?a14 ?l14 ?c14 ?k14 ?a15 ?l15 ?c15 ?k15 ?a16 ?l16 ?c16 ?k16 ?a17 ?l17 ?c17 ?k17 ?a18 ?l18 ?c18 ?k18 ?z0 ?z1 ?z2 ?z3 ?z4 ?z5 ?z6 ?z7 ?z8 ?z9 ?z10 ?z11 ?eB ?eT ?eS ?eP ?eNValueError ?eNisinstance ?gUnfit ?xUnfit ?iUnfit ?tUnfit ?kUnfit ?cUnfit ?mUnfit ?sUnfit ?vUnfit ?bUnfit ?yUnfit ?lUnfit ?oUnfit ?dUnfit ?fUnfit ?FUnfit ?eUnfit ?q1Unfit ?q2Unfit ?q4Unfit ?q5Unfit ?q6Unfit ?q7Unfit ?q8Unfit ?u1Unfit ?u2Unfit ?wUnfitUnfit
    (case a0 => k_is); (case l0 => k_is); (case c0 => k_is); (case k0 => k_is)
    (case a1 => k_is); (case l1 => k_is); (case c1 => k_is); (case k1 => k_is)
    (case a2 => k_is); (case l2 => k_is); (case c2 => k_is); (case k2 => k_is)
    (case a3 => k_is); (case l3 => k_is); (case c3 => k_is); (case k3 => k_is)
    (case a4 => k_is); (case l4 => k_is); (case c4 => k_is); (case k4 => k_is)
    (case a5 => k_is); (case l5 => k_is); (case c5 => k_is); (case k5 => k_is)
    (case a6 => k_is); (case l6 => k_is); (case c6 => k_is); (case k6 => k_is)
    (case a7 => k_is); (case l7 => k_is); (case c7 => k_is); (case k7 => k_is)
    (case a8 => k_is); (case l8 => k_is); (case c8 => k_is); (case k8 => k_is)
    (case a9 => k_is); (case l9 => k_is); (case c9 => k_is); (case k9 => k_is)
    (case a10 => k_is); (case l10 => k_is); (case c10 => k_is); (case k10 => k_is)
    (case a11 => k_is); (case l11 => k_is); (case c11 => k_is); (case k11 => k_is)
    (case a12 => k_is); (case l12 => k_is); (case c12 => k_is); (case k12 => k_is)
    (case a13 => k_is); (case l13 => k_is); (case c13 => k_is); (case k13 => k_is)
    (case a14 => k_is); (case l14 => k_is); (case c14 => k_is); (case k14 => k_is)
    (case a15 => k_is); (case l15 => k_is); (case c15 => k_is); (case k15 => k_is)
    (case a16 => k_is); (case l16 => k_is); (case c16 => k_is); (case k16 => k_is)
    (case a17 => k_is); (case l17 => k_is); (case c17 => k_is); (case k17 => k_is)
    (case a18 => k_is); (case l18 => k_is); (case c18 => k_is); (case k18 => k_is)
    (case z0 => k_is); (case z1 => k_is); (case z2 => k_is); (case z3 => k_is)
    (case z4 => k_is); (case z5 => k_is); (case z6 => k_is); (case z7 => k_is)
    (case z8 => k_is); (case z9 => k_is); (case z10 => k_is); (case z11 => k_is)
    (case eB => k_is); (case eT => k_is); (case eS => k_is); (case eP => first | rfl | decide +kernel)
    (case eNValueError => k_is); (case eNisinstance => k_is); (case gUnfit => k_is); (case xUnfit => kx_is)
    (case iUnfit => k_is); (case tUnfit => k_is); (case kUnfit => k_is); (case cUnfit => k_is)
    (case mUnfit => k_is); (case sUnfit => ks_is); (case vUnfit => k_is); (case bUnfit => k_is)
    (case yUnfit => k_is); (case lUnfit => k_is); (case oUnfit => k_is); (case dUnfit => k_is)
    (case fUnfit => rfl); (case FUnfit => first | rfl | decide +kernel); (case eUnfit => k_is); (case q1Unfit => k_is)
    (case q2Unfit => k_is); (case q4Unfit => k_is); (case q5Unfit => k_is); (case q6Unfit => k_is)
    (case q7Unfit => k_is); (case q8Unfit => k_is); (case u1Unfit => kit_is); (case u2Unfit => kit_is)
    (case wUnfitUnfit => k_is)
