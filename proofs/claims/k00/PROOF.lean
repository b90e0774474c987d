import PyProof.Rows.All
import Wide.All
import OpenK.AllK
import Wide.FinOn
import HandS.ForMost
import HandS.Deep
import HandS.IsInst
import KE.KDictKeyed
import KE.KDictWalk
import HandS.Wide
import HandS.TupAny
import HandS.TupMul
import HandS.Style
import KE.DataCmp
import KE.SortData
import KE.KDictItemsList
import KE.GoesEnum
import PySem.Challenge.RW_storesagree_k00_values_and_bags
set_option Elab.async false
set_option linter.all false
set_option maxRecDepth 100000
/-! The data layer: values as plain data, over the hand layer. -/
namespace Dv
open PySem L2

/-- data: what a value is, without the heap -/
inductive D where
  | non
  | bl (b : Bool)
  | int (i : Int)
  | str (x : Str)
  | tup (xs : List D)
  | lst (xs : List D)
  | dic (kvs : List (D × D))
  | raw (v : V)

/-- what is fixed throughout: the program, the world, the written part -/
structure Cn where
  P : Program
  w : World
  K : PySem.W.Frag

/-- a datum as a key of a dict -/
def nk : D → Option NestedKey
  | .non => some .none
  | .bl b => some (.num (if b then 1 else 0))
  | .int i => some (.num i)
  | .str x => some (.text x)
  | .tup xs => (nks xs).map .tup
  | _ => none
where nks : List D → Option (List NestedKey)
  | [] => some []
  | x :: xs => match nk x, nks xs with
    | some k, some ks => some (k :: ks)
    | _, _ => none

/-- the very object o stands at a -/
def DAt (a : Addr) (o : Obj) (h : Heap) : Prop := h.get? a = some o
/-- o is a dict with the entries es -/
structure DFx (a : Addr) (o : Obj) (es : List DictEntry) : Prop where
  ex : o.ExactDict
  dt : ∃ ep, o.data = .dict es.toArray ep
  ns : (a == sysModules) = false
  sz : es.length ≤ sizeLine

mutual
/-- the value v is the datum d -/
inductive Rp (c : Cn) (H : Hp) : V → D → Prop
  | non : Rp c H .non .non
  | bl (b : Bool) : Rp c H (.bl b) (.bl b)
  | int (i : Int) : Rp c H (.int i) (.int i)
  | str {x : Str} (z : x.length ≤ sizeLine) : Rp c H (.str x) (.str x)
  | tup {a : Addr} {vs : List V} {ds : List D} (z : ds.length ≤ sizeLine) : SqT c.K H a vs → RpA c H vs ds → Rp c H (.ref a) (.tup ds)
  | lst {a : Addr} {vs : List V} {ds : List D} (z : ds.length ≤ sizeLine) : SqL c.K H a vs → RpA c H vs ds → Rp c H (.ref a) (.lst ds)
  | dic {a : Addr} {o : Obj} {es : List DictEntry} {kvs : List (D × D)} : H a = some (.ext (DAt a o)) → DFx a o es → RpE c H es kvs → (kvs.map fun p => nk p.1).Nodup → Rp c H (.ref a) (.dic kvs)
  | raw (v : V) : Rp c H v (.raw v)
inductive RpA (c : Cn) (H : Hp) : List V → List D → Prop
  | nil : RpA c H [] []
  | cons {v : V} {vs : List V} {d : D} {ds : List D} : Rp c H v d → RpA c H vs ds → RpA c H (v :: vs) (d :: ds)
inductive RpE (c : Cn) (H : Hp) : List DictEntry → List (D × D) → Prop
  | nil : RpE c H [] []
  | cons {e : DictEntry} {kv v : V} {n : NestedKey} {es : List DictEntry} {k d : D} {kvs : List (D × D)} : RelV kv e.key → Rp c H kv k → nk k = some n → e.hash = n.hash c.w → RelV v e.val → Rp c H v d → RpE c H es kvs → RpE c H (e :: es) ((k, d) :: kvs)
end

theorem SqT_same {K : PySem.W.Frag} {H H' : Hp} {a : Addr} {xs : List V} (e : Same H H') (h : SqT K H a xs) : SqT K H' a xs := by
  rcases h with (h | ⟨o, h⟩) | h
  · exact .inl (.inl (e _ _ h))
  · exact .inl (.inr ⟨o, e _ _ h⟩)
  · exact .inr h
section
variable {c : Cn} {H H' : Hp}
mutual
theorem Rp.same (e : Same H H') : ∀ {v : V} {d : D}, Rp c H v d → Rp c H' v d
  | _, _, .non => .non
  | _, _, .bl b => .bl b
  | _, _, .int i => .int i
  | _, _, .str z => .str z
  | _, _, .tup z h t => .tup z (SqT_same e h) (RpA.same e t)
  | _, _, .lst z h t => .lst z (e.seq h) (RpA.same e t)
  | _, _, .dic h x t n => .dic (e _ _ h) x (RpE.same e t) n
  | _, _, .raw v => .raw v
theorem RpA.same (e : Same H H') : ∀ {vs : List V} {ds : List D}, RpA c H vs ds → RpA c H' vs ds
  | _, _, .nil => .nil
  | _, _, .cons h t => .cons (Rp.same e h) (RpA.same e t)
theorem RpE.same (e : Same H H') : ∀ {vs : List DictEntry} {ds : List (D × D)}, RpE c H vs ds → RpE c H' vs ds
  | _, _, .nil => .nil
  | _, _, .cons r h k z q g t => .cons r (Rp.same e h) k z q (Rp.same e g) (RpE.same e t)
end
theorem RpA.length : ∀ {vs : List V} {ds : List D}, RpA c H vs ds → vs.length = ds.length
  | _, _, .nil => rfl
  | _, _, .cons _ t => by rw [List.length_cons, List.length_cons, RpA.length t]
theorem RpA.append : ∀ {vs ws : List V} {ds es : List D}, RpA c H vs ds → RpA c H ws es → RpA c H (vs ++ ws) (ds ++ es)
  | _, _, _, _, .nil, s => s
  | _, _, _, _, .cons h t, s => .cons h (RpA.append t s)
theorem RpA.one {v : V} {d : D} (h : Rp c H v d) : RpA c H [v] [d] := .cons h .nil
theorem RpA.get : ∀ {vs : List V} {ds : List D} {i : Nat} {d : D}, RpA c H vs ds → ds[i]? = some d → ∃ v, vs[i]? = some v ∧ Rp c H v d
  | _, _, _, _, .nil, e => by simp at e
  | _, _, 0, d, .cons h _, e => by
    simp at e
    subst e
    exact ⟨_, rfl, h⟩
  | _, _, i + 1, d, .cons _ t, e => by
    obtain ⟨v, a, b⟩ := RpA.get (i := i) t (by simpa using e)
    exact ⟨v, by simpa using a, b⟩
theorem RpA.getV : ∀ {vs : List V} {ds : List D} {i : Nat} {v : V}, RpA c H vs ds → vs[i]? = some v → ∃ d, ds[i]? = some d ∧ Rp c H v d
  | _, _, _, _, .nil, e => by simp at e
  | _, _, 0, d, .cons h _, e => by
    simp at e
    subst e
    exact ⟨_, rfl, h⟩
  | _, _, i + 1, d, .cons _ t, e => by
    obtain ⟨v, a, b⟩ := RpA.getV (i := i) t (by simpa using e)
    exact ⟨v, by simpa using a, b⟩
theorem RpA.take : ∀ {vs : List V} {ds : List D} (n : Nat), RpA c H vs ds → RpA c H (vs.take n) (ds.take n)
  | _, _, 0, _ => .nil
  | _, _, _ + 1, .nil => .nil
  | _, _, n + 1, .cons h t => .cons h (RpA.take n t)
theorem RpA.drop : ∀ {vs : List V} {ds : List D} (n : Nat), RpA c H vs ds → RpA c H (vs.drop n) (ds.drop n)
  | _, _, 0, r => r
  | _, _, _ + 1, .nil => .nil
  | _, _, n + 1, .cons _ t => RpA.drop n t
theorem RpA.rev {vs : List V} {ds : List D} (h : RpA c H vs ds) : RpA c H vs.reverse ds.reverse := by
  induction vs generalizing ds with
  | nil => cases h; exact .nil
  | cons v vs ih =>
    cases h with
    | cons a t =>
      rw [List.reverse_cons, List.reverse_cons]
      exact (ih t).append (.one a)
theorem RpA.all {vs : List V} {ds : List D} (h : RpA c H vs ds) : ∀ v ∈ vs, ∃ d ∈ ds, Rp c H v d := by
  intro v hv
  obtain ⟨i, e⟩ := List.mem_iff_getElem?.mp hv
  obtain ⟨d, e2, r⟩ := h.getV e
  exact ⟨d, List.mem_of_getElem? e2, r⟩
end

/-! ### steps of the heap -/
/-- new things laid, nothing else: Hs what is fixed for ever (data), H all -/
structure Lay (Hs H Hs' H' : Hp) : Prop where
  fz : Same Hs Hs'
  sub : Same Hs' H'
  new : ∀ a, Hs' a ≠ none → Hs a ≠ none ∨ H a = none
  ext : Same H H'
theorem Lay.refl {Hs H : Hp} (h : Same Hs H) : Lay Hs H Hs H := ⟨Same.refl _, h, fun _ q => .inl q, Same.refl _⟩
theorem ne_none {H : Hp} {a : Addr} (h : H a ≠ none) : ∃ o, H a = some o := by
  cases q : H a with
  | none => exact absurd q h
  | some o => exact ⟨o, rfl⟩
theorem Lay.trans {Hs H H1 H1' H2 H2' : Hp} (a : Lay Hs H H1 H1') (b : Lay H1 H1' H2 H2') : Lay Hs H H2 H2' :=
  ⟨a.fz.trans b.fz, b.sub, fun x q => by
    rcases b.new x q with z | z
    · exact a.new x z
    · exact .inr (a.ext.free z), a.ext.trans b.ext⟩
theorem Same.upd2 {Hs H : Hp} {p : Addr} {o : HO} (h : Same Hs H) : Same (upd Hs p o) (upd H p o) := fun a u e => by
  by_cases q : a = p
  · subst q
    rw [upd_same] at e ⊢
    exact e
  · rw [upd_ne q] at e ⊢
    exact h a u e
theorem Same.updR {H : Hp} {p : Addr} {o : HO} (hp : H p = none) : Same H (upd H p o) := fun a u e => by
  rw [upd_ne (ne_of_none e hp)]
  exact e
theorem Lay.one {Hs H : Hp} {p : Addr} {o : HO} (h : Same Hs H) (hp : H p = none) : Lay Hs H (upd Hs p o) (upd H p o) := by
  have hs : Hs p = none := h.free hp
  refine ⟨Same.updR hs, Same.upd2 h, fun a q => ?_, Same.updR hp⟩
  by_cases e : a = p
  · subst e
    exact .inr hp
  · rw [upd_ne e] at q
    exact .inl q
/-- a thing laid that is not data (mutable) -/
theorem Lay.mut {Hs H : Hp} {p : Addr} {o : HO} (h : Same Hs H) (hp : H p = none) : Lay Hs H Hs (upd H p o) :=
  ⟨Same.refl _, h.trans (Same.updR hp), fun _ q => .inl q, Same.updR hp⟩

theorem upd_keep {own : Addr → Prop} {Hs : Hp} {p : Addr} {o : HO} (n : ¬ own p) : ∀ a, own a → Hs a = none → upd Hs p o a = none := fun a q e => by
  have z : a ≠ p := fun z => by
    subst z
    exact n q
  rw [upd_ne z]
  exact e
/-- a mutable thing that runs along: its states, where it stands, how it lies in the heap -/
structure Wld where
  S : Type
  own : S → Addr → Prop
  rel : S → Hp → Hp → Prop
  keep : ∀ {s : S} {Hs H Hs' H' : Hp}, rel s Hs H → Same Hs Hs' → (∀ a, own s a → Hs a = none → Hs' a = none) → (∀ a, own s a → H' a = H a) → rel s Hs' H'
  there : ∀ {s : S} {Hs H : Hp} {a : Addr}, rel s Hs H → own s a → H a ≠ none
/-- no such thing -/
def W0 : Wld := ⟨Unit, fun _ _ => False, fun _ _ _ => True, fun _ _ _ _ => trivial, fun _ h => h.elim⟩

structure Go (W : Wld) (s : W.S) (Hs H : Hp) (s' : W.S) (Hs' H' : Hp) : Prop where
  fz : Same Hs Hs'
  sub : Same Hs' H'
  new : ∀ a, Hs' a ≠ none → Hs a ≠ none ∨ H a = none
  ext : ∀ a o, H a = some o → ¬ W.own s a → H' a = some o
  th : ∀ a, H a ≠ none → H' a ≠ none
  wn : ∀ a, W.own s' a → W.own s a ∨ H a = none
  rel : W.rel s' Hs' H'
section
variable {W : Wld} {s s1 s2 : W.S} {Hs H H1 H1' H2 H2' : Hp}
theorem Go.refl (h : Same Hs H) (r : W.rel s Hs H) : Go W s Hs H s Hs H := ⟨Same.refl _, h, fun _ q => .inl q, fun _ _ q _ => q, fun _ q => q, fun _ q => .inl q, r⟩
theorem free_of {H H' : Hp} (th : ∀ a, H a ≠ none → H' a ≠ none) {a : Addr} (h : H' a = none) : H a = none := by
  cases q : H a with
  | none => rfl
  | some o => exact absurd h (th a (by rw [q]; exact fun z => nomatch z))
theorem Go.trans (a : Go W s Hs H s1 H1 H1') (b : Go W s1 H1 H1' s2 H2 H2') : Go W s Hs H s2 H2 H2' := by
  refine ⟨a.fz.trans b.fz, b.sub, fun x q => ?_, fun x o q n => ?_, fun x q => b.th x (a.th x q), fun x q => ?_, b.rel⟩
  · rcases b.new x q with z | z
    · exact a.new x z
    · exact .inr (free_of a.th z)
  · refine b.ext x o (a.ext x o q n) fun z => ?_
    rcases a.wn x z with y | y
    · exact n y
    · rw [q] at y
      cases y
  · rcases b.wn x q with z | z
    · exact a.wn x z
    · exact .inr (free_of a.th z)
theorem Lay.go {Hs' H' : Hp} (l : Lay Hs H Hs' H') (r : W.rel s Hs H) : Go W s Hs H s Hs' H' := by
  refine ⟨l.fz, l.sub, l.new, fun _ _ q _ => l.ext _ _ q, fun x q => ?_, fun _ q => .inl q, W.keep r l.fz (fun x q e => ?_) fun x q => ?_⟩
  · obtain ⟨o, e⟩ := ne_none q
    rw [l.ext _ _ e]
    exact fun z => nomatch z
  · cases z : Hs' x with
    | none => rfl
    | some u =>
      rcases l.new x (by rw [z]; exact fun y => nomatch y) with y | y
      · exact absurd e y
      · exact absurd y (W.there r q)
  · obtain ⟨o, e⟩ := ne_none (W.there r q)
    rw [e, l.ext _ _ e]
theorem Go.lay {u u1 : W0.S} {Hs' H' : Hp} (g : Go W0 u Hs H u1 Hs' H') : Lay Hs H Hs' H' := ⟨g.fz, g.sub, g.new, fun a o q => g.ext a o q fun z => z⟩
end

/-! ### slots -/
/-- a thing of one's own: a list or dict that is changed, that nothing else holds -/
inductive Ob where
  | lst (xs : List D)
  | dic (kvs : List (D × D))
inductive OR (c : Cn) (Hs : Hp) (p : Addr) : HO → Ob → Prop
  | lst {vs : List V} {xs : List D} (z : xs.length ≤ sizeLine) : RpA c Hs vs xs → OR c Hs p (.lst vs) (.lst xs)
  | dic {o : Obj} {es : List DictEntry} {kvs : List (D × D)} : DFx p o es → RpE c Hs es kvs → (kvs.map fun q => nk q.1).Nodup → OR c Hs p (.ext (DAt p o)) (.dic kvs)
theorem OR.same {c : Cn} {H H' : Hp} {p : Addr} {o : HO} {b : Ob} (e : Same H H') (h : OR c H p o b) : OR c H' p o b := by
  cases h with
  | lst z r => exact .lst z (r.same e)
  | dic x r n => exact .dic x (r.same e) n
inductive Slot where
  | un
  | d (x : D)
  | own (o : Ob)
abbrev Env := List Slot

/-- the entry of a def -/
structure Bs (W : Wld) where
  s : W.S
  Hs : Hp
  H : Hp

structure Stt (c : Cn) (W : Wld) (B : Bs W) (σ : St) (H : Hp) (ρ : Env) (s : W.S) (Hs : Hp) : Prop where
  go : Go W B.s B.Hs B.H s Hs H
  len : σ.length = ρ.length
  dat : ∀ (i : Nat) (d : D), ρ[i]? = some (.d d) → ∃ v, σ[i]? = some (some v) ∧ Rp c Hs v d
  ow : ∀ (i : Nat) (b : Ob), ρ[i]? = some (.own b) → ∃ p o, σ[i]? = some (some (.ref p)) ∧ H p = some o ∧ OR c Hs p o b ∧ Hs p = none ∧ ¬ W.own s p ∧ B.H p = none
  ap : ∀ (i j : Nat) (b b' : Ob) (p : Addr), ρ[i]? = some (.own b) → ρ[j]? = some (.own b') → σ[i]? = some (some (.ref p)) → σ[j]? = some (some (.ref p)) → i = j
section
variable {c : Cn} {W : Wld} {B : Bs W} {σ : St} {H : Hp} {ρ : Env} {s : W.S} {Hs : Hp}
theorem Stt.sub (S : Stt c W B σ H ρ s Hs) : Same Hs H := S.go.sub
theorem Stt.rel (S : Stt c W B σ H ρ s Hs) : W.rel s Hs H := S.go.rel
/-- behind an expression -/
theorem Stt.step {s' : W.S} {Hs' H' : Hp} (S : Stt c W B σ H ρ s Hs) (g : Go W s Hs H s' Hs' H') : Stt c W B σ H' ρ s' Hs' where
  go := S.go.trans g
  len := S.len
  dat := fun i d e => by
    obtain ⟨v, a, r⟩ := S.dat i d e
    exact ⟨v, a, r.same g.fz⟩
  ow := fun i b e => by
    obtain ⟨p, o, h1, h2, h3, h4, h5, h6⟩ := S.ow i b e
    refine ⟨p, o, h1, g.ext p o h2 h5, h3.same g.fz, ?_, fun z => ?_, h6⟩
    · cases q : Hs' p with
      | none => rfl
      | some u =>
        rcases g.new p (by rw [q]; exact fun z => nomatch z) with z | z
        · exact absurd h4 z
        · rw [h2] at z; cases z
    · rcases g.wn p z with y | y
      · exact h5 y
      · rw [h2] at y; cases y
  ap := S.ap
/-- the start of a def -/
theorem Stt.start {s : W.S} {Hs H : Hp} {vs : List V} {ds : List D} {m : Nat} (h : Same Hs H) (r : W.rel s Hs H) (ra : RpA c Hs vs ds) :
    Stt c W ⟨s, Hs, H⟩ (vs.map some ++ List.replicate m none) H (ds.map .d ++ List.replicate m .un) s Hs := by
  have hl := ra.length
  have noown : ∀ (i : Nat) (b : Ob), (ds.map Slot.d ++ List.replicate m .un)[i]? ≠ some (.own b) := fun i b e => by
    by_cases hi : i < ds.length
    · rw [List.getElem?_append_left (by simpa using hi), List.getElem?_map] at e
      cases q : ds[i]? with
      | none => rw [q] at e; cases e
      | some d => rw [q] at e; cases e
    · rw [List.getElem?_append_right (by simpa using hi), List.getElem?_replicate] at e
      split at e <;> cases e
  refine ⟨Go.refl h r, by simp [hl], fun i d e => ?_, fun i b e => absurd e (noown i b), fun i j b b' p e => absurd e (noown i b)⟩
  by_cases hi : i < ds.length
  · rw [List.getElem?_append_left (by simpa using hi), List.getElem?_map] at e
    cases q : ds[i]? with
    | none => rw [q] at e; cases e
    | some d' =>
      rw [q] at e
      cases e
      obtain ⟨v, hv, rv⟩ := ra.get q
      refine ⟨v, ?_, rv⟩
      rw [List.getElem?_append_left (by simpa [hl] using hi), List.getElem?_map, hv]
      rfl
  · rw [List.getElem?_append_right (by simpa using hi), List.getElem?_replicate] at e
    split at e <;> cases e
/-- a slot is stored: a datum -/
theorem Stt.set {i : Nat} {v : V} {d : D} (S : Stt c W B σ H ρ s Hs) (r : Rp c Hs v d) : Stt c W B (σ.set i (some v)) H (ρ.set i (.d d)) s Hs := by
  have hn : ∀ (j : Nat) (b : Ob), (ρ.set i (.d d))[j]? = some (.own b) → j ≠ i ∧ ρ[j]? = some (.own b) := fun j b e => by
    by_cases q : i = j
    · subst q
      by_cases hi : i < ρ.length
      · rw [List.getElem?_set_self hi] at e; cases e
      · rw [List.getElem?_eq_none (by simpa using hi)] at e; cases e
    · rw [List.getElem?_set_ne q] at e
      exact ⟨fun z => q z.symm, e⟩
  refine ⟨S.go, by simpa using S.len, fun j d' e => ?_, fun j b e => ?_, fun j k b b' p e1 e2 e3 e4 => ?_⟩
  · by_cases q : i = j
    · subst q
      by_cases hi : i < ρ.length
      · rw [List.getElem?_set_self hi] at e
        cases e
        exact ⟨v, by rw [List.getElem?_set_self (by rw [S.len]; exact hi)], r⟩
      · rw [List.getElem?_eq_none (by simpa using hi)] at e; cases e
    · rw [List.getElem?_set_ne q] at e ⊢
      exact S.dat j d' e
  · obtain ⟨h1, h2⟩ := hn j b e
    obtain ⟨p, o, a, z⟩ := S.ow j b h2
    exact ⟨p, o, by rw [List.getElem?_set_ne (Ne.symm h1)]; exact a, z⟩
  · obtain ⟨h1, h2⟩ := hn j b e1
    obtain ⟨h3, h4⟩ := hn k b' e2
    rw [List.getElem?_set_ne (Ne.symm h1)] at e3
    rw [List.getElem?_set_ne (Ne.symm h3)] at e4
    exact S.ap j k b b' p h2 h4 e3 e4
/-- .. a new thing of one's own -/
theorem Stt.setOwn {i : Nat} {p : Addr} {o : HO} {b : Ob} (S : Stt c W B σ H ρ s Hs) (hp : H p = some o) (r : OR c Hs p o b) (h1 : Hs p = none) (h2 : ¬ W.own s p) (h3 : B.H p = none)
    (h4 : ∀ j b', j ≠ i → ρ[j]? = some (.own b') → σ[j]? ≠ some (some (.ref p))) : Stt c W B (σ.set i (some (.ref p))) H (ρ.set i (.own b)) s Hs := by
  have cs : ∀ (j : Nat) (b' : Ob), (ρ.set i (.own b))[j]? = some (.own b') → (j = i ∧ i < ρ.length ∧ b' = b) ∨ (j ≠ i ∧ ρ[j]? = some (.own b')) := fun j b' e => by
    by_cases q : i = j
    · subst q
      by_cases hi : i < ρ.length
      · rw [List.getElem?_set_self hi] at e
        cases e
        exact .inl ⟨rfl, hi, rfl⟩
      · rw [List.getElem?_eq_none (by simpa using hi)] at e; cases e
    · rw [List.getElem?_set_ne q] at e
      exact .inr ⟨fun z => q z.symm, e⟩
  refine ⟨S.go, by simpa using S.len, fun j d' e => ?_, fun j b' e => ?_, fun j k b1 b2 q e1 e2 e3 e4 => ?_⟩
  · by_cases q : i = j
    · subst q
      by_cases hi : i < ρ.length
      · rw [List.getElem?_set_self hi] at e; cases e
      · rw [List.getElem?_eq_none (by simpa using hi)] at e; cases e
    · rw [List.getElem?_set_ne q] at e ⊢
      exact S.dat j d' e
  · rcases cs j b' e with ⟨rfl, hi, rfl⟩ | ⟨h, e'⟩
    · exact ⟨p, o, by rw [List.getElem?_set_self (by rw [S.len]; exact hi)], hp, r, h1, h2, h3⟩
    · obtain ⟨p', o', a, z⟩ := S.ow j b' e'
      exact ⟨p', o', by rw [List.getElem?_set_ne (Ne.symm h)]; exact a, z⟩
  · rcases cs j b1 e1 with ⟨rfl, hi, _⟩ | ⟨h, e'⟩
    · rcases cs k b2 e2 with ⟨rfl, _, _⟩ | ⟨hk, ek⟩
      · rfl
      · rw [List.getElem?_set_self (by rw [S.len]; exact hi)] at e3
        cases e3
        rw [List.getElem?_set_ne (Ne.symm hk)] at e4
        exact absurd e4 (h4 k b2 hk ek)
    · rcases cs k b2 e2 with ⟨rfl, hi, _⟩ | ⟨hk, ek⟩
      · rw [List.getElem?_set_self (by rw [S.len]; exact hi)] at e4
        cases e4
        rw [List.getElem?_set_ne (Ne.symm h)] at e3
        exact absurd e3 (h4 j b1 h e')
      · rw [List.getElem?_set_ne (Ne.symm h)] at e3
        rw [List.getElem?_set_ne (Ne.symm hk)] at e4
        exact S.ap j k b1 b2 q e' ek e3 e4
/-- a new place is no slot's own -/
theorem Stt.fresh {p : Addr} (S : Stt c W B σ H ρ s Hs) (hp : H p = none) : ∀ (j : Nat) (b : Ob), ρ[j]? = some (.own b) → σ[j]? ≠ some (some (.ref p)) := fun j b e z => by
  obtain ⟨q, o, a, h, _⟩ := S.ow j b e
  rw [a] at z
  cases z
  rw [h] at hp; cases hp
/-- a thing of one's own is changed -/
theorem Stt.mut {i : Nat} {p : Addr} {o' : HO} {b b' : Ob} (S : Stt c W B σ H ρ s Hs) (e : ρ[i]? = some (.own b)) (es : σ[i]? = some (some (.ref p))) (r : OR c Hs p o' b') :
    Stt c W B σ (upd H p o') (ρ.set i (.own b')) s Hs := by
  obtain ⟨p0, o0, a1, a2, a3, a4, a5, a6⟩ := S.ow i b e
  rw [es] at a1
  cases a1
  have hi : i < ρ.length := (List.getElem?_eq_some_iff.mp e).1
  have ne : ∀ {q : Addr} {u : HO}, Hs q = some u → q ≠ p := fun h z => by rw [z, a4] at h; cases h
  refine ⟨⟨S.go.fz, fun a u h => ?_, S.go.new, fun a u h n => ?_, fun a h => ?_, S.go.wn, W.keep S.go.rel (Same.refl _) (fun _ _ z => z) fun a h => ?_⟩, by simpa using S.len, fun j d' ej => ?_, fun j b1 ej => ?_, fun j k b1 b2 q e1 e2 e3 e4 => ?_⟩
  · rw [upd_ne (ne h)]; exact S.go.sub a u h
  · have : a ≠ p := fun z => by rw [z, a6] at h; cases h
    rw [upd_ne this]; exact S.go.ext a u h n
  · by_cases z : a = p
    · rw [z, upd_same]; exact fun z => nomatch z
    · rw [upd_ne z]; exact S.go.th a h
  · have : a ≠ p := fun z => by rw [z] at h; exact a5 h
    rw [upd_ne this]
  · by_cases q : i = j
    · subst q
      rw [List.getElem?_set_self hi] at ej; cases ej
    · rw [List.getElem?_set_ne q] at ej
      exact S.dat j d' ej
  · by_cases q : i = j
    · subst q
      rw [List.getElem?_set_self hi] at ej
      cases ej
      exact ⟨p, o', es, upd_same, r, a4, a5, a6⟩
    · rw [List.getElem?_set_ne q] at ej
      obtain ⟨p', u, c1, c2, c3, c4, c5, c6⟩ := S.ow j b1 ej
      have : p' ≠ p := fun z => by
        subst z
        exact q (S.ap i j b b1 p' e ej es c1)
      exact ⟨p', u, c1, by rw [upd_ne this]; exact c2, c3, c4, c5, c6⟩
  · have back : ∀ (m : Nat) (bm : Ob), (ρ.set i (.own b'))[m]? = some (.own bm) → ∃ bm', ρ[m]? = some (.own bm') := fun m bm em => by
      by_cases q : i = m
      · subst q; exact ⟨b, e⟩
      · rw [List.getElem?_set_ne q] at em
        exact ⟨bm, em⟩
    obtain ⟨x1, y1⟩ := back j b1 e1
    obtain ⟨x2, y2⟩ := back k b2 e2
    exact S.ap j k x1 x2 q y1 y2 e3 e4
/-- a slot is forgotten -/
theorem Stt.forget {i : Nat} {v : Option V} (S : Stt c W B σ H ρ s Hs) : Stt c W B (σ.set i v) H (ρ.set i .un) s Hs := by
  have hn : ∀ (j : Nat) (x : Slot), x ≠ .un → (ρ.set i .un)[j]? = some x → j ≠ i ∧ ρ[j]? = some x := fun j x hx e => by
    by_cases q : i = j
    · subst q
      by_cases hi : i < ρ.length
      · rw [List.getElem?_set_self hi] at e
        cases e
        exact absurd rfl hx
      · rw [List.getElem?_eq_none (by simpa using hi)] at e; cases e
    · rw [List.getElem?_set_ne q] at e
      exact ⟨fun z => q z.symm, e⟩
  refine ⟨S.go, by simpa using S.len, fun j d' e => ?_, fun j b e => ?_, fun j k b b' p e1 e2 e3 e4 => ?_⟩
  · obtain ⟨h1, h2⟩ := hn j (.d d') (fun z => nomatch z) e
    rw [List.getElem?_set_ne (Ne.symm h1)]
    exact S.dat j d' h2
  · obtain ⟨h1, h2⟩ := hn j (.own b) (fun z => nomatch z) e
    rw [List.getElem?_set_ne (Ne.symm h1)]
    exact S.ow j b h2
  · obtain ⟨h1, h2⟩ := hn j (.own b) (fun z => nomatch z) e1
    obtain ⟨h3, h4⟩ := hn k (.own b') (fun z => nomatch z) e2
    rw [List.getElem?_set_ne (Ne.symm h1)] at e3
    rw [List.getElem?_set_ne (Ne.symm h3)] at e4
    exact S.ap j k b b' p h2 h4 e3 e4
end
end Dv

set_option Elab.async false
set_option linter.all false
set_option maxRecDepth 100000
/-! Judgements over data, the rules of expressions. -/
namespace Dv
open PySem L2

abbrev cn (X : Cx) : Cn := ⟨X.prog, X.w, X.K⟩

section
variable {X : Cx}
theorem pe_imp {e : Expr} {t t' : TE} (h : PE X e t) (f : ∀ σ H Q, t' σ H Q → t σ H Q) : PE X e t' := ⟨fun pins s σ H Q I w => h.run pins s σ H Q I (f _ _ _ w)⟩
theorem pt_imp {e : Expr} {t t' : TT} (h : PT X e t) (f : ∀ σ H Q, t' σ H Q → t σ H Q) : PT X e t' := ⟨fun pins s σ H Q I w => h.run pins s σ H Q I (f _ _ _ w)⟩
theorem pw_imp {e : Expr} {t t' : TT} (h : PW X e t) (f : ∀ σ H Q, t' σ H Q → t σ H Q) : PW X e t' := ⟨fun wh pins s σ H Q I w => h.run wh pins s σ H Q I (f _ _ _ w)⟩
theorem pa_imp {es : List Expr} {t t' : TA} (h : PA X es t) (f : ∀ σ H Q, t' σ H Q → t σ H Q) : PA X es t' := ⟨fun pos pins s σ H Q I w => h.run pos pins s σ H Q I (f _ _ _ w)⟩
theorem ps_imp {st : Stmt} {t t' : TS} (h : PS X st t) (f : ∀ D σ H, t' D σ H → t D σ H) : PS X st t' := ⟨fun pins s σ H D I w => h.run pins s σ H D I (f _ _ _ w)⟩
theorem pss_imp {st : List Stmt} {t t' : TS} (h : PSs X st t) (f : ∀ D σ H, t' D σ H → t D σ H) : PSs X st t' := ⟨fun pins s σ H D I w => h.run pins s σ H D I (f _ _ _ w)⟩
theorem pi_imp {tg e : Expr} {t t' : TI} (h : PI X tg e t) (f : ∀ σ H R, t' σ H R → t σ H R) : PI X tg e t' := ⟨fun pins s σ H R I w => h.run pins s σ H R I (f _ _ _ w)⟩
end

/-! ### what is wanted behind a piece -/
abbrev AftP (c : Cn) (Hs H : Hp) (R : D → Prop) (Q : VK) : Prop := ∀ d Hs' H' v, R d → Lay Hs H Hs' H' → Rp c Hs' v d → Q v H'
abbrev Aft (c : Cn) (W : Wld) (s : W.S) (Hs H : Hp) (R : D → W.S → Prop) (Q : VK) : Prop := ∀ d s' Hs' H' v, R d s' → Go W s Hs H s' Hs' H' → Rp c Hs' v d → Q v H'
abbrev AftB (W : Wld) (s : W.S) (Hs H : Hp) (R : Bool → W.S → Prop) (Q : Bool → Hp → Prop) : Prop := ∀ b s' Hs' H', R b s' → Go W s Hs H s' Hs' H' → Q b H'
abbrev AftA (c : Cn) (W : Wld) (s : W.S) (Hs H : Hp) (R : List D → W.S → Prop) (Q : List V → Hp → Prop) : Prop := ∀ ds s' Hs' H' vs, R ds s' → Go W s Hs H s' Hs' H' → RpA c Hs' vs ds → Q vs H'

abbrev TD (W : Wld) := Env → W.S → (D → W.S → Prop) → Prop
abbrev TDB (W : Wld) := Env → W.S → (Bool → W.S → Prop) → Prop
abbrev TDA (W : Wld) := Env → W.S → (List D → W.S → Prop) → Prop
abbrev P1 := D → (D → Prop) → Prop
abbrev P2 := D → D → (D → Prop) → Prop
abbrev PL := List D → (D → Prop) → Prop

def liftE (c : Cn) (W : Wld) (B : Bs W) (t : TD W) : TE := fun σ H Q => ∃ Hs ρ s R, Stt c W B σ H ρ s Hs ∧ t ρ s R ∧ Aft c W s Hs H R Q
def liftT (c : Cn) (W : Wld) (B : Bs W) (t : TDB W) : TT := fun σ H Q => ∃ Hs ρ s R, Stt c W B σ H ρ s Hs ∧ t ρ s R ∧ AftB W s Hs H R Q
def liftA (c : Cn) (W : Wld) (B : Bs W) (t : TDA W) : TA := fun σ H Q => ∃ Hs ρ s R, Stt c W B σ H ρ s Hs ∧ t ρ s R ∧ AftA c W s Hs H R Q
structure DE (W : Wld) (B : Bs W) (X : Cx) (e : Expr) (t : TD W) : Prop where
  run : PE X e (liftE (cn X) W B t)
structure DT (W : Wld) (B : Bs W) (X : Cx) (e : Expr) (t : TDB W) : Prop where
  run : PT X e (liftT (cn X) W B t)
structure DW (W : Wld) (B : Bs W) (X : Cx) (e : Expr) (t : TDB W) : Prop where
  run : PW X e (liftT (cn X) W B t)
structure DA (W : Wld) (B : Bs W) (X : Cx) (es : List Expr) (t : TDA W) : Prop where
  run : PA X es (liftA (cn X) W B t)

/-- rules of values that are pure -/
def Lk1 (X : Cx) (r : V → Hp → VK → Prop) (p : P1) : Prop := ∀ Hs H x d R Q, Same Hs H → Rp (cn X) Hs x d → p d R → AftP (cn X) Hs H R Q → r x H Q
def Lk2 (X : Cx) (r : R2) (p : P2) : Prop := ∀ Hs H x y d e R Q, Same Hs H → Rp (cn X) Hs x d → Rp (cn X) Hs y e → p d e R → AftP (cn X) Hs H R Q → r x y H Q
def LkL (X : Cx) (r : List V → Hp → VK → Prop) (p : PL) : Prop := ∀ Hs H vs ds R Q, Same Hs H → RpA (cn X) Hs vs ds → p ds R → AftP (cn X) Hs H R Q → r vs H Q
def LkM (X : Cx) (r : V → List V → Hp → VK → Prop) (p : D → PL) : Prop := ∀ Hs H x d vs ds R Q, Same Hs H → Rp (cn X) Hs x d → RpA (cn X) Hs vs ds → p d ds R → AftP (cn X) Hs H R Q → r x vs H Q
def OpD (X : Cx) (f : Value → Value → Sem Value) (p : P2) : Prop := ∃ r, OpR X f r ∧ Lk2 X r p
def UnD (X : Cx) (f : Value → Sem Value) (p : P1) : Prop := ∃ r, UnR X f r ∧ Lk1 X r p
def CallD (X : Cx) (f : Value) (p : PL) : Prop := ∃ r, CallR X f r ∧ LkL X r p

section
variable {W : Wld} {B : Bs W} {X : Cx} {pos : Pos} {a b e : Expr} {ta tb tc : TD W}

/-! ### names, constants -/
def dVar (i : Nat) : TD W := fun ρ s Q => ∃ d, ρ[i]? = some (.d d) ∧ Q d s
def dC (d : D) : TD W := fun _ s Q => Q d s
theorem de_name {i : Nat} (h : PE X e (tVar i)) : DE W B X e (dVar i) := ⟨pe_imp h fun σ H Q ⟨Hs, ρ, s, R, S, ⟨d, e1, h1⟩, k⟩ => by
  obtain ⟨v, ev, rv⟩ := S.dat i d e1
  exact ⟨v, ev, k d s Hs H v h1 (Go.refl S.sub S.rel) rv⟩⟩
theorem de_const {v : V} {d : D} (h : PE X e (tC v)) (r : ∀ Hs, Rp (cn X) Hs v d) : DE W B X e (dC d) := ⟨pe_imp h fun σ H Q ⟨Hs, ρ, s, R, S, h1, k⟩ => k d s Hs H v h1 (Go.refl S.sub S.rel) (r Hs)⟩
theorem dv (i : Nat) {x : Str} (hN : X.N[i]? = some x := by rfl) (hv : Vis X.env.scope x := by first | exact Or.inl rfl | exact Or.inr (Or.inl rfl) | exact Or.inr (Or.inr rfl)) (hd : (x == ("__debug__" : Str)) = false := by decide)
    (hcd : (x == ("__classdict__" : Str)) = false := by decide) : DE W B X (.Name x pos) (dVar i) := de_name (pe_var hN hv hd hcd)
theorem de_int {i : Int} {j : Nat} : DE W B X (.Constant (.int i) j pos) (dC (.int i)) := de_const pe_int fun _ => .int i
theorem de_bl {b : Bool} {j : Nat} : DE W B X (.Constant (.bool b) j pos) (dC (.bl b)) := de_const pe_bl fun _ => .bl b
theorem de_non {j : Nat} : DE W B X (.Constant .none j pos) (dC .non) := de_const pe_non fun _ => .non
theorem de_str {x : Str} {j : Nat} (z : x.length ≤ sizeLine := by decide) : DE W B X (.Constant (.str x) j pos) (dC (.str x)) := de_const pe_str fun _ => .str z
/-- a name of a built-in type -/
theorem de_ty {x : Str} {n : String} (hg : Gl X x) (hm : X.mg x = none) (hv : bootBuiltins x = some (.type n)) (hn : x ≠ "__name__" := by decide) (hd : (x == ("__debug__" : Str)) = false := by decide) : DE W B X (.Name x pos) (dC (.raw (.ty n))) :=
  de_const (pe_bltn (v := .ty n) hg hm hv rfl hn hd) fun _ => .raw _
/-- a class or def of the module -/
theorem de_top {x : Str} {f : Addr} (hg : Gl X x) (hm : X.mg x = some (.ref f)) (hd : (x == ("__debug__" : Str)) = false := by decide) : DE W B X (.Name x pos) (dC (.raw (.ref f))) :=
  de_const (pe_glob (v := .ref f) hg hm rfl hd) fun _ => .raw _

/-! ### operators -/
def dOp (p : P2) (ta tb : TD W) : TD W := fun ρ s Q => ta ρ s fun x s1 => tb ρ s1 fun y s2 => p x y fun d => Q d s2
theorem lift_op {r : R2} {p : P2} (l : Lk2 X r p) {σ : St} {H : Hp} {Q : VK} (h : liftE (cn X) W B (dOp p ta tb) σ H Q) : tOp r (liftE (cn X) W B ta) (liftE (cn X) W B tb) σ H Q := by
  obtain ⟨Hs, ρ, s, R, S, h1, k⟩ := h
  refine ⟨Hs, ρ, s, _, S, h1, fun x s1 Hs1 H1 v hR g1 rv => ?_⟩
  refine ⟨Hs1, ρ, s1, _, S.step g1, hR, fun y s2 Hs2 H2 u hR2 g2 ru => ?_⟩
  exact l Hs2 H2 v u x y _ _ g2.sub (rv.same g2.fz) ru hR2 fun z Hs3 H3 w hz ly rz => k z s2 Hs3 H3 w hz (g1.trans (g2.trans (ly.go g2.rel))) rz
theorem de_op {op : Operator} {p : P2} (ho : OpD X (binaryOp op) p) (ha : DE W B X a ta) (hb : DE W B X b tb) : DE W B X (.BinOp a op b pos) (dOp p ta tb) := by
  obtain ⟨r, hr, l⟩ := ho
  exact ⟨pe_imp (pe_op hr ha.run hb.run) fun σ H Q h => lift_op l h⟩
theorem de_cmp {op : CmpOp} {p : P2} (ho : OpD X (compareOp op) p) (ha : DE W B X a ta) (hb : DE W B X b tb) (hm : behindInMarks op b = false := by first | exact nomark _ | rfl) : DE W B X (.Compare a [op] [b] pos) (dOp p ta tb) := by
  obtain ⟨r, hr, l⟩ := ho
  exact ⟨pe_imp (pe_cmpR hr ha.run hb.run hm) fun σ H Q h => lift_op l h⟩
def dB (t : TD W) : TDB W := fun ρ s Q => t ρ s fun d s' => ∃ k, d = .bl k ∧ Q k s'
theorem Rp.blE {c : Cn} {H : Hp} {v : V} {k : Bool} (h : Rp c H v (.bl k)) : v = .bl k := by
  cases h
  rfl
theorem dt_cmp {op : CmpOp} {p : P2} (ho : OpD X (compareOp op) p) (ha : DE W B X a ta) (hb : DE W B X b tb) (hm : behindInMarks op b = false := by first | exact nomark _ | rfl) : DT W B X (.Compare a [op] [b] pos) (dB (dOp p ta tb)) := by
  obtain ⟨r, hr, l⟩ := ho
  refine ⟨pt_imp (pt_cmpR hr ha.run hb.run hm) fun σ H Q h => ?_⟩
  obtain ⟨Hs, ρ, s, R, S, h1, k⟩ := h
  refine lift_op (W := W) (B := B) (ta := ta) (tb := tb) l ⟨Hs, ρ, s, _, S, h1, fun d s' Hs' H' v hR g rv => ?_⟩
  obtain ⟨b, rfl, hq⟩ := hR
  exact ⟨b, rv.blE, k b s' Hs' H' hq g⟩
/-- an expression that gives a bool, as a test -/
theorem dt_val {t : TD W} (h : DE W B X e t) (he : ∀ whole, isTrue e X.env whole = (do let v ← whole; standAt e.pos; holding [v] (truthy v)) := by intro _; rfl) : DT W B X e (dB t) := by
  refine ⟨pt_imp (pt_val h.run he) fun σ H Q h => ?_⟩
  obtain ⟨Hs, ρ, s, R, S, h1, k⟩ := h
  refine ⟨Hs, ρ, s, _, S, h1, fun d s' Hs' H' v hR g rv => ?_⟩
  obtain ⟨b, rfl, hq⟩ := hR
  exact ⟨b, rv.blE, k b s' Hs' H' hq g⟩
/-- a op1 b op2 c -/
def dChain (p p' : P2) (ta tb tc : TD W) : TD W := fun ρ s Q => ta ρ s fun x s1 => tb ρ s1 fun y s2 => p x y fun d => ∃ k, d = .bl k ∧ if k = true then tc ρ s2 fun z s3 => p' y z fun d' => Q d' s3 else Q (.bl false) s2
theorem lift_chain {r r' : R2} {p p' : P2} (l : Lk2 X r p) (l' : Lk2 X r' p') {σ : St} {H : Hp} {Q : VK} (h : liftE (cn X) W B (dChain p p' ta tb tc) σ H Q) :
    tChain r r' (liftE (cn X) W B ta) (liftE (cn X) W B tb) (liftE (cn X) W B tc) σ H Q := by
  obtain ⟨Hs, ρ, s, R, S, h1, k⟩ := h
  refine ⟨Hs, ρ, s, _, S, h1, fun x s1 Hs1 H1 v hR g1 rv => ?_⟩
  refine ⟨Hs1, ρ, s1, _, S.step g1, hR, fun y s2 Hs2 H2 u hR2 g2 ru => ?_⟩
  refine l Hs2 H2 v u x y _ _ g2.sub (rv.same g2.fz) ru hR2 fun z Hs3 H3 w hz ly rz => ?_
  obtain ⟨b, rfl, hq⟩ := hz
  have g3 := ly.go g2.rel
  refine ⟨b, rz.blE, ?_⟩
  cases b with
  | false =>
    rw [if_neg Bool.false_ne_true] at hq ⊢
    exact k _ s2 Hs3 H3 _ hq (g1.trans (g2.trans g3)) (.bl false)
  | true =>
    rw [if_pos rfl] at hq ⊢
    refine ⟨Hs3, ρ, s2, _, ((S.step g1).step g2).step g3, hq, fun z s4 Hs4 H4 w4 hR4 g4 r4 => ?_⟩
    exact l' Hs4 H4 u w4 y z _ _ g4.sub ((ru.same g3.fz).same g4.fz) r4 hR4 fun z' Hs5 H5 w5 hz' ly5 r5 => k z' s4 Hs5 H5 w5 hz' (g1.trans (g2.trans (g3.trans (g4.trans (ly5.go g4.rel))))) r5
theorem de_chain {op op' : CmpOp} {p p' : P2} {c : Expr} (ho : OpD X (compareOp op) p) (ho' : OpD X (compareOp op') p') (ha : DE W B X a ta) (hb : DE W B X b tb) (hc : DE W B X c tc)
    (hm : lastMarks [op, op'] [b, c] = false := by with_unfolding_all rfl) : DE W B X (.Compare a [op, op'] [b, c] pos) (dChain p p' ta tb tc) := by
  obtain ⟨r, hr, l⟩ := ho
  obtain ⟨r', hr', l'⟩ := ho'
  exact ⟨pe_imp (pe_chain hr hr' ha.run hb.run hc.run hm) fun σ H Q h => lift_chain l l' h⟩
theorem dt_chain {op op' : CmpOp} {p p' : P2} {c : Expr} (ho : OpD X (compareOp op) p) (ho' : OpD X (compareOp op') p') (ha : DE W B X a ta) (hb : DE W B X b tb) (hc : DE W B X c tc)
    (hm : lastMarks [op, op'] [b, c] = false := by with_unfolding_all rfl) : DT W B X (.Compare a [op, op'] [b, c] pos) (dB (dChain p p' ta tb tc)) := by
  obtain ⟨r, hr, l⟩ := ho
  obtain ⟨r', hr', l'⟩ := ho'
  refine ⟨pt_imp (pt_chain hr hr' ha.run hb.run hc.run hm) fun σ H Q h => ?_⟩
  obtain ⟨Hs, ρ, s, R, S, h1, k⟩ := h
  refine lift_chain (W := W) (B := B) (ta := ta) (tb := tb) (tc := tc) l l' ⟨Hs, ρ, s, _, S, h1, fun d s' Hs' H' v hR g rv => ?_⟩
  obtain ⟨b, rfl, hq⟩ := hR
  exact ⟨b, rv.blE, k b s' Hs' H' hq g⟩
def dUn (p : P1) (ta : TD W) : TD W := fun ρ s Q => ta ρ s fun x s1 => p x fun d => Q d s1
theorem de_un {op : UnaryOp} {p : P1} (ho : UnD X (unaryOp op) p) (ha : DE W B X a ta) : DE W B X (.UnaryOp op a pos) (dUn p ta) := by
  obtain ⟨r, hr, l⟩ := ho
  refine ⟨pe_imp (pe_un hr ha.run) fun σ H Q h => ?_⟩
  obtain ⟨Hs, ρ, s, R, S, h1, k⟩ := h
  exact ⟨Hs, ρ, s, _, S, h1, fun x s1 Hs1 H1 v hR g1 rv => l Hs1 H1 v x _ _ g1.sub rv hR fun z Hs3 H3 w hz ly rz => k z s1 Hs3 H3 w hz (g1.trans (ly.go g1.rel)) rz⟩

/-! ### and, or, not, if -/
variable {tA tB : TDB W} {rest : List Expr}
def dAnd (t u : TDB W) : TDB W := fun ρ s Q => t ρ s fun c s1 => if c = true then u ρ s1 Q else Q false s1
def dOr (t u : TDB W) : TDB W := fun ρ s Q => t ρ s fun c s1 => if c = true then Q true s1 else u ρ s1 Q
def dNot (t : TDB W) : TDB W := fun ρ s Q => t ρ s fun c s1 => Q (!c) s1
theorem dw_pt (h : DW W B X e tA) : DT W B X e tA := ⟨h.run.pt⟩
theorem dw_and1 (ha : DT W B X a tA) : DW W B X (.BoolOp .And [a] pos) tA := ⟨pw_and1 ha.run⟩
theorem dw_or1 (ha : DT W B X a tA) : DW W B X (.BoolOp .Or [a] pos) tA := ⟨pw_or1 ha.run⟩
theorem dw_and (ha : DT W B X a tA) (hb : DW W B X (.BoolOp .And (b :: rest) pos) tB) : DW W B X (.BoolOp .And (a :: b :: rest) pos) (dAnd tA tB) := by
  refine ⟨pw_imp (pw_and ha.run hb.run) fun σ H Q h => ?_⟩
  obtain ⟨Hs, ρ, s, R, S, h1, k⟩ := h
  refine ⟨Hs, ρ, s, _, S, h1, fun c s1 Hs1 H1 hR g1 => ?_⟩
  cases c with
  | true =>
    rw [if_pos rfl] at hR ⊢
    exact ⟨Hs1, ρ, s1, _, S.step g1, hR, fun c s2 Hs2 H2 h2 g2 => k c s2 Hs2 H2 h2 (g1.trans g2)⟩
  | false =>
    rw [if_neg Bool.false_ne_true] at hR ⊢
    exact k _ s1 Hs1 H1 hR g1
theorem dw_or (ha : DT W B X a tA) (hb : DW W B X (.BoolOp .Or (b :: rest) pos) tB) : DW W B X (.BoolOp .Or (a :: b :: rest) pos) (dOr tA tB) := by
  refine ⟨pw_imp (pw_or ha.run hb.run) fun σ H Q h => ?_⟩
  obtain ⟨Hs, ρ, s, R, S, h1, k⟩ := h
  refine ⟨Hs, ρ, s, _, S, h1, fun c s1 Hs1 H1 hR g1 => ?_⟩
  cases c with
  | false =>
    rw [if_neg Bool.false_ne_true] at hR ⊢
    exact ⟨Hs1, ρ, s1, _, S.step g1, hR, fun c s2 Hs2 H2 h2 g2 => k c s2 Hs2 H2 h2 (g1.trans g2)⟩
  | true =>
    rw [if_pos rfl] at hR ⊢
    exact k _ s1 Hs1 H1 hR g1
theorem dt_not (ha : DT W B X a tA) : DT W B X (.UnaryOp .Not a pos) (dNot tA) := by
  refine ⟨pt_imp (pt_not ha.run) fun σ H Q h => ?_⟩
  obtain ⟨Hs, ρ, s, R, S, h1, k⟩ := h
  exact ⟨Hs, ρ, s, _, S, h1, fun c s1 Hs1 H1 hR g1 => k _ s1 Hs1 H1 hR g1⟩
/-- .. as values -/
def dAndV (ta tb : TD W) : TD W := fun ρ s Q => ta ρ s fun x s1 => ∃ c, x = .bl c ∧ if c = true then tb ρ s1 Q else Q (.bl false) s1
def dOrV (ta tb : TD W) : TD W := fun ρ s Q => ta ρ s fun x s1 => ∃ c, x = .bl c ∧ if c = true then Q (.bl true) s1 else tb ρ s1 Q
def dNotV (ta : TD W) : TD W := fun ρ s Q => ta ρ s fun x s1 => ∃ c, x = .bl c ∧ Q (.bl (!c)) s1
theorem de_one {op : BoolOp} {t : TD W} (h : DE W B X a t) : DE W B X (.BoolOp op [a] pos) t := ⟨pe_one h.run⟩
theorem de_and (ha : DE W B X a ta) (hb : DE W B X (.BoolOp .And (b :: rest) pos) tb) : DE W B X (.BoolOp .And (a :: b :: rest) pos) (dAndV ta tb) := by
  refine ⟨pe_imp (pe_and ha.run hb.run) fun σ H Q h => ?_⟩
  obtain ⟨Hs, ρ, s, R, S, h1, k⟩ := h
  refine ⟨Hs, ρ, s, _, S, h1, fun d s1 Hs1 H1 v hR g1 rv => ?_⟩
  obtain ⟨c, rfl, hR⟩ := hR
  refine ⟨c, rv.blE, ?_⟩
  cases c with
  | true =>
    rw [if_pos rfl] at hR ⊢
    exact ⟨Hs1, ρ, s1, _, S.step g1, hR, fun d s2 Hs2 H2 v2 h2 g2 r2 => k d s2 Hs2 H2 v2 h2 (g1.trans g2) r2⟩
  | false =>
    rw [if_neg Bool.false_ne_true] at hR ⊢
    exact k _ s1 Hs1 H1 _ hR g1 (.bl false)
theorem de_or (ha : DE W B X a ta) (hb : DE W B X (.BoolOp .Or (b :: rest) pos) tb) : DE W B X (.BoolOp .Or (a :: b :: rest) pos) (dOrV ta tb) := by
  refine ⟨pe_imp (pe_or ha.run hb.run) fun σ H Q h => ?_⟩
  obtain ⟨Hs, ρ, s, R, S, h1, k⟩ := h
  refine ⟨Hs, ρ, s, _, S, h1, fun d s1 Hs1 H1 v hR g1 rv => ?_⟩
  obtain ⟨c, rfl, hR⟩ := hR
  refine ⟨c, rv.blE, ?_⟩
  cases c with
  | false =>
    rw [if_neg Bool.false_ne_true] at hR ⊢
    exact ⟨Hs1, ρ, s1, _, S.step g1, hR, fun d s2 Hs2 H2 v2 h2 g2 r2 => k d s2 Hs2 H2 v2 h2 (g1.trans g2) r2⟩
  | true =>
    rw [if_pos rfl] at hR ⊢
    exact k _ s1 Hs1 H1 _ hR g1 (.bl true)
theorem de_not (ha : DE W B X a ta) : DE W B X (.UnaryOp .Not a pos) (dNotV ta) := by
  refine ⟨pe_imp (pe_not ha.run) fun σ H Q h => ?_⟩
  obtain ⟨Hs, ρ, s, R, S, h1, k⟩ := h
  refine ⟨Hs, ρ, s, _, S, h1, fun d s1 Hs1 H1 v hR g1 rv => ?_⟩
  obtain ⟨c, rfl, hR⟩ := hR
  exact ⟨c, rv.blE, k _ s1 Hs1 H1 _ hR g1 (.bl _)⟩
def dIf (t : TDB W) (ta tb : TD W) : TD W := fun ρ s Q => t ρ s fun c s1 => if c = true then ta ρ s1 Q else tb ρ s1 Q
theorem de_if {c : Expr} (hc : DT W B X c tA) (ha : DE W B X a ta) (hb : DE W B X b tb) : DE W B X (.IfExp c a b pos) (dIf tA ta tb) := by
  refine ⟨pe_imp (pe_ifExp hc.run ha.run hb.run) fun σ H Q h => ?_⟩
  obtain ⟨Hs, ρ, s, R, S, h1, k⟩ := h
  refine ⟨Hs, ρ, s, _, S, h1, fun c s1 Hs1 H1 hR g1 => ?_⟩
  cases c with
  | true =>
    rw [if_pos rfl] at hR ⊢
    exact ⟨Hs1, ρ, s1, _, S.step g1, hR, fun d s2 Hs2 H2 v2 h2 g2 r2 => k d s2 Hs2 H2 v2 h2 (g1.trans g2) r2⟩
  | false =>
    rw [if_neg Bool.false_ne_true] at hR ⊢
    exact ⟨Hs1, ρ, s1, _, S.step g1, hR, fun d s2 Hs2 H2 v2 h2 g2 r2 => k d s2 Hs2 H2 v2 h2 (g1.trans g2) r2⟩

/-! ### arguments, displays -/
variable {es : List Expr} {te : TD W} {t : TDA W}
def dNil : TDA W := fun _ s Q => Q [] s
def dCons (te : TD W) (t : TDA W) : TDA W := fun ρ s Q => te ρ s fun x s1 => t ρ s1 fun xs s2 => Q (x :: xs) s2
theorem da_nil : DA W B X [] dNil := ⟨pa_imp pa_nil fun σ H Q ⟨Hs, ρ, s, R, S, h1, k⟩ => k [] s Hs H [] h1 (Go.refl S.sub S.rel) .nil⟩
theorem da_cons (he : DE W B X e te) (hr : DA W B X es t) (hs : starEach (e :: es) X.env = (false, eval e X.env) :: starEach es X.env := by rfl) : DA W B X (e :: es) (dCons te t) := by
  refine ⟨pa_imp (pa_cons he.run hr.run hs) fun σ H Q h => ?_⟩
  obtain ⟨Hs, ρ, s, R, S, h1, k⟩ := h
  refine ⟨Hs, ρ, s, _, S, h1, fun x s1 Hs1 H1 v hR g1 rv => ?_⟩
  refine ⟨Hs1, ρ, s1, _, S.step g1, hR, fun xs s2 Hs2 H2 vs hR2 g2 rs => ?_⟩
  exact k _ s2 Hs2 H2 _ hR2 (g1.trans g2) (.cons (rv.same g2.fz) rs)
def dTup (t : TDA W) : TD W := fun ρ s Q => t ρ s fun xs s1 => xs.length ≤ sizeLine ∧ Q (.tup xs) s1
def dLst (t : TDA W) : TD W := fun ρ s Q => t ρ s fun xs s1 => xs.length ≤ sizeLine ∧ Q (.lst xs) s1
theorem Rp.tupN {c : Cn} {Hs : Hp} {p : Addr} {vs : List V} {xs : List D} (hp : Hs p = none) (z : xs.length ≤ sizeLine) (r : RpA c Hs vs xs) : Rp c (upd Hs p (.tup vs)) (.ref p) (.tup xs) := .tup z (SqT.of upd_same) (r.same (Same.updR hp))
theorem Rp.lstN {c : Cn} {Hs : Hp} {p : Addr} {vs : List V} {xs : List D} (hp : Hs p = none) (z : xs.length ≤ sizeLine) (r : RpA c Hs vs xs) : Rp c (upd Hs p (.lst vs)) (.ref p) (.lst xs) := .lst z (SqL.of upd_same) (r.same (Same.updR hp))
theorem de_tup {x1 : Nat} (h : DA W B X es t) : DE W B X (.Tuple es x1 pos) (dTup t) := by
  refine ⟨pe_imp (pe_tup h.run) fun σ H Q h => ?_⟩
  obtain ⟨Hs, ρ, s, R, S, h1, k⟩ := h
  refine ⟨Hs, ρ, s, _, S, h1, fun xs s1 Hs1 H1 vs hR g1 rs => ?_⟩
  obtain ⟨hz, hq⟩ := hR
  refine ⟨by rw [rs.length]; exact hz, fun p hp => ?_⟩
  exact k _ s1 _ _ _ hq (g1.trans ((Lay.one g1.sub hp).go g1.rel)) (.tupN (g1.sub.free hp) hz rs)
theorem de_lst (h : DA W B X es t) : DE W B X (.List es pos) (dLst t) := by
  refine ⟨pe_imp (pe_lst h.run) fun σ H Q h => ?_⟩
  obtain ⟨Hs, ρ, s, R, S, h1, k⟩ := h
  refine ⟨Hs, ρ, s, _, S, h1, fun xs s1 Hs1 H1 vs hR g1 rs => ?_⟩
  obtain ⟨hz, hq⟩ := hR
  refine ⟨by rw [rs.length]; exact hz, fun p hp => ?_⟩
  exact k _ s1 _ _ _ hq (g1.trans ((Lay.one g1.sub hp).go g1.rel)) (.lstN (g1.sub.free hp) hz rs)

/-! ### calls -/
/-- a built-in's call -/
def dCallP (p : PL) (t : TDA W) : TD W := fun ρ s Q => t ρ s fun ds s1 => p ds fun d => Q d s1
theorem lift_callP {r : List V → Hp → VK → Prop} {p : PL} (l : LkL X r p) {σ : St} {H : Hp} {Q : VK} (h : liftE (cn X) W B (dCallP p t) σ H Q) : tCB r (liftA (cn X) W B t) σ H Q := by
  obtain ⟨Hs, ρ, s, R, S, h1, k⟩ := h
  exact ⟨Hs, ρ, s, _, S, h1, fun ds s1 Hs1 H1 vs hR g1 rv => l Hs1 H1 vs ds _ _ g1.sub rv hR fun z Hs3 H3 w hz ly rz => k z s1 Hs3 H3 w hz (g1.trans (ly.go g1.rel)) rz⟩
theorem de_callB {x : Str} {p' : Pos} {id : String} {p : PL} (hc : CallD X (.builtin id) p) (hg : Gl X x) (hm : X.mg x = none) (hv : bootBuiltins x = some (.builtin id)) (ha : DA W B X (e :: es) t) (hn : x ≠ "__name__" := by decide) (hdb : (x == ("__debug__" : Str)) = false := by decide)
    (he : starEach (e :: es) X.env = (false, eval e X.env) :: starEach es X.env := by rfl) (hpl : (backTo pos (starEach es X.env)).any (·.1) = false := by rfl) : DE W B X (.Call (.Name x p') (e :: es) [] pos) (dCallP p t) := by
  obtain ⟨r, hr, l⟩ := hc
  exact ⟨pe_imp (pe_callB hr hg hm hv ha.run hn hdb he hpl) fun σ H Q h => lift_callP l h⟩
theorem de_callTy {x : Str} {p' : Pos} {T : String} {p : PL} (hc : CallD X (.type T) p) (hg : Gl X x) (hm : X.mg x = none) (hv : bootBuiltins x = some (.type T)) (ha : DA W B X (e :: es) t) (hn : x ≠ "__name__" := by decide) (hdb : (x == ("__debug__" : Str)) = false := by decide)
    (he : starEach (e :: es) X.env = (false, eval e X.env) :: starEach es X.env := by rfl) (hpl : (backTo pos (starEach es X.env)).any (·.1) = false := by rfl) : DE W B X (.Call (.Name x p') (e :: es) [] pos) (dCallP p t) := by
  obtain ⟨r, hr, l⟩ := hc
  exact ⟨pe_imp (pe_callTy hr hg hm hv ha.run hn hdb he hpl) fun σ H Q h => lift_callP l h⟩

/-- a def's promise over data: n arguments -/
abbrev OkD (W : Wld) := List D → W.S → (D → W.S → Prop) → Prop
def spD (c : Cn) (W : Wld) (n : Nat) (ok : OkD W) : Sp := fun vs H Q _ => ∃ Hs s ds R, W.rel s Hs H ∧ Same Hs H ∧ RpA c Hs vs ds ∧ ds.length = n ∧ ok ds s R ∧ Aft c W s Hs H R Q
def spP (c : Cn) (n : Nat) (ok : PL) : Sp := fun vs H Q _ => ∃ Hs ds R, Same Hs H ∧ RpA c Hs vs ds ∧ ds.length = n ∧ ok ds R ∧ AftP c Hs H R Q
def lfP (W : Wld) (ok : PL) : OkD W := fun ds s R => ok ds fun d => R d s
theorem spD_of_P {c : Cn} {W : Wld} {n : Nat} {ok : PL} {vs : List V} {H : Hp} {Q : VK} {E : XK} (h : spD c W n (lfP W ok) vs H Q E) : spP c n ok vs H Q E := by
  obtain ⟨Hs, s, ds, R, hr, hs, ra, hn, ho, k⟩ := h
  exact ⟨Hs, ds, _, hs, ra, hn, ho, fun d Hs' H' v hd l r => k d s Hs' H' v hd (l.go hr) r⟩
theorem spP_of_D {c : Cn} {n : Nat} {ok : PL} {vs : List V} {H : Hp} {Q : VK} {E : XK} (h : spP c n ok vs H Q E) : spD c W0 n (lfP W0 ok) vs H Q E := by
  obtain ⟨Hs, ds, R, hs, ra, hn, ho, k⟩ := h
  exact ⟨Hs, (), ds, fun d _ => R d, trivial, hs, ra, hn, ho, fun d s' Hs' H' v hd g r => k d Hs' H' v hd g.lay r⟩
def dCall (n : Nat) (ok : OkD W) (t : TDA W) : TD W := fun ρ s Q => t ρ s fun ds s1 => ds.length = n ∧ ok ds s1 Q
section
variable {k n : Nat} {f : Addr} {fd : FuncData} {ps : List Str} {ok : OkD W} {x : Str} {p' : Pos}
theorem lift_call {σ : St} {H : Hp} {Q : VK} (h : liftE (cn X) W B (dCall n ok t) σ H Q) : tCall (spD (cn X) W n ok) [] E0 (liftA (cn X) W B t) σ H Q := by
  obtain ⟨Hs, ρ, s, R, S, h1, k⟩ := h
  refine ⟨Hs, ρ, s, _, S, h1, fun ds s1 Hs1 H1 vs hR g1 rv => ?_⟩
  obtain ⟨hn, ho⟩ := hR
  exact ⟨Hs1, s1, ds, _, g1.rel, g1.sub, by rw [List.append_nil]; exact rv, hn, ho, fun d s2 Hs2 H2 v hd g2 r => k d s2 Hs2 H2 v hd (g1.trans g2) r⟩
theorem de_call (F : FnOk X.prog X.w X.K X.mg X.base CX0 k f fd ps (spD (cn X) W n ok)) (hr : Room k X.A) (hg : Gl X x) (hm : X.mg x = some (.ref f)) (hk : PySem.W.keepIn X.K (.ref f) = true) (hb : Binds X.K fd ps [])
    (ha : DA W B X (e :: es) t) (hdb : (x == ("__debug__" : Str)) = false := by decide) (he : starEach (e :: es) X.env = (false, eval e X.env) :: starEach es X.env := by rfl) (hpl : (backTo pos (starEach es X.env)).any (·.1) = false := by rfl) :
    DE W B X (.Call (.Name x p') (e :: es) [] pos) (dCall n ok t) :=
  ⟨pe_imp (pe_call F hr hg hm hk hb .nil pass0 ha.run hdb he hpl) fun σ H Q h => lift_call h⟩
end
theorem FnOk.toW {P : Program} {w : World} {K : PySem.W.Frag} {mg : Str → Option Value} {base : Heap} {k n : Nat} {f : Addr} {fd : FuncData} {ps : List Str} {ok : PL} {c : Cn} (W : Wld) (F : FnOk P w K mg base CX0 k f fd ps (spP c n ok)) :
    FnOk P w K mg base CX0 k f fd ps (spD c W n (lfP W ok)) := F.imp fun _ _ _ _ h => spD_of_P h
theorem FnOk.toP {P : Program} {w : World} {K : PySem.W.Frag} {mg : Str → Option Value} {base : Heap} {k n : Nat} {f : Addr} {fd : FuncData} {ps : List Str} {ok : PL} {c : Cn} (F : FnOk P w K mg base CX0 k f fd ps (spD c W0 n (lfP W0 ok))) :
    FnOk P w K mg base CX0 k f fd ps (spP c n ok) := F.imp fun _ _ _ _ h => spP_of_D h

/-! ### subscripts -/
def dIx (p : P2) (ta tb : TD W) : TD W := dOp p ta tb
def IxD (X : Cx) (p : P2) : Prop := ∃ r, IxR X r ∧ Lk2 X r p
theorem de_ix {p : P2} (ho : IxD X p) (ha : DE W B X a ta) (hb : DE W B X b tb) (hs : PlainIx b := by exact fun _ _ => rfl) : DE W B X (.Subscript a b pos) (dOp p ta tb) := by
  obtain ⟨r, hr, l⟩ := ho
  exact ⟨pe_imp (pe_ix hr ha.run hb.run hs) fun σ H Q h => lift_op l h⟩
/-- a part of a slice -/
abbrev TDO (W : Wld) := Env → W.S → (Option Int → W.S → Prop) → Prop
def liftO (c : Cn) (W : Wld) (B : Bs W) (t : TDO W) : TO := fun σ H Q => ∃ Hs ρ s R, Stt c W B σ H ρ s Hs ∧ t ρ s R ∧ ∀ o s' Hs' H', R o s' → Go W s Hs H s' Hs' H' → Q o H'
structure DO (W : Wld) (B : Bs W) (X : Cx) (e : Option Expr) (t : TDO W) : Prop where
  run : PO X e (liftO (cn X) W B t)
def dNoPart : TDO W := fun _ s Q => Q none s
def dPart (t : TD W) : TDO W := fun ρ s Q => t ρ s fun d s1 => ∃ i, d = .int i ∧ Q (some i) s1
theorem po_imp {o : Option Expr} {t t' : TO} (h : PO X o t) (f : ∀ σ H Q, t' σ H Q → t σ H Q) : PO X o t' := ⟨fun pins s σ H Q I w => h.run pins s σ H Q I (f _ _ _ w)⟩
theorem do_none : DO W B X none dNoPart := ⟨po_imp po_none fun σ H Q ⟨Hs, ρ, s, R, S, h1, k⟩ => k none s Hs H h1 (Go.refl S.sub S.rel)⟩
theorem Rp.intE {c : Cn} {H : Hp} {v : V} {i : Int} (h : Rp c H v (.int i)) : v = .int i := by
  cases h
  rfl
theorem do_some (h : DE W B X e te) : DO W B X (some e) (dPart te) := by
  refine ⟨po_imp (po_some h.run) fun σ H Q h => ?_⟩
  obtain ⟨Hs, ρ, s, R, S, h1, k⟩ := h
  refine ⟨Hs, ρ, s, _, S, h1, fun d s1 Hs1 H1 v hR g1 rv => ?_⟩
  obtain ⟨i, rfl, hq⟩ := hR
  exact ⟨i, rv.intE, k _ s1 Hs1 H1 hq g1⟩
def LkS (X : Cx) (r : V → Option Int → Option Int → Hp → VK → Prop) (p : D → Option Int → Option Int → (D → Prop) → Prop) : Prop := ∀ Hs H x lo hi d R Q, Same Hs H → Rp (cn X) Hs x d → p d lo hi R → AftP (cn X) Hs H R Q → r x lo hi H Q
def SlD (X : Cx) (p : D → Option Int → Option Int → (D → Prop) → Prop) : Prop := ∃ r, SlR X r ∧ LkS X r p
def dSl (p : D → Option Int → Option Int → (D → Prop) → Prop) (te : TD W) (tl th : TDO W) : TD W := fun ρ s Q => te ρ s fun x s1 => tl ρ s1 fun lo s2 => th ρ s2 fun hi s3 => p x lo hi fun d => Q d s3
theorem de_slice {p : D → Option Int → Option Int → (D → Prop) → Prop} {lo hi : Option Expr} {p2 : Pos} {tl th : TDO W} (hp : SlD X p) (he : DE W B X e te) (hl : DO W B X lo tl) (hh : DO W B X hi th) : DE W B X (.Subscript e (.Slice lo hi none p2) pos) (dSl p te tl th) := by
  obtain ⟨r, hr, l⟩ := hp
  refine ⟨pe_imp (pe_slice hr he.run hl.run hh.run) fun σ H Q h => ?_⟩
  obtain ⟨Hs, ρ, s, R, S, h1, k⟩ := h
  refine ⟨Hs, ρ, s, _, S, h1, fun x s1 Hs1 H1 v hR g1 rv => ?_⟩
  refine ⟨Hs1, ρ, s1, _, S.step g1, hR, fun i s2 Hs2 H2 hR2 g2 => ?_⟩
  refine ⟨Hs2, ρ, s2, _, (S.step g1).step g2, hR2, fun j s3 Hs3 H3 hR3 g3 => ?_⟩
  exact l Hs3 H3 v i j x _ _ g3.sub ((rv.same g2.fz).same g3.fz) hR3 fun z Hs4 H4 w hz ly rz => k z s3 Hs4 H4 w hz (g1.trans (g2.trans (g3.trans (ly.go g3.rel)))) rz
/-- a method of a built-in type, its object data -/
theorem bm_imp {t t' : TE} (h : PE X e t) (f : ∀ σ H Q, t' σ H Q → t σ H Q) : PE X e t' := pe_imp h f
end
end Dv

set_option Elab.async false
set_option linter.all false
set_option maxRecDepth 100000
/-! What is walked, comprehensions, over data. -/
namespace Dv
open PySem L2

/-- the iterator J walks the data xs, whatever comes on -/
structure WalkD (c : Cn) (Hs0 : Hp) (J : It) (xs : List D) : Prop where
  go : ∀ i Hs H, Same Hs0 Hs → Same Hs H → i < xs.length → J.go i H
  stop : ∀ Hs H, Same Hs0 Hs → Same Hs H → J.stop xs.length H
  yld : ∀ i d Hs H x H', Same Hs0 Hs → Same Hs H → xs[i]? = some d → J.yld i H x H' → ∃ Hs', Lay Hs H Hs' H' ∧ Rp c Hs' x d
theorem WalkD.list {c : Cn} {Hs0 : Hp} {a : Addr} {vs : List V} {xs : List D} (h : SqL c.K Hs0 a vs) (r : RpA c Hs0 vs xs) : WalkD c Hs0 (Itl c.K a) xs where
  go := fun i Hs H s1 s2 hi => by
    obtain ⟨v, hv, _⟩ := r.get (List.getElem?_eq_getElem hi)
    exact ⟨vs, v, s2.seq (s1.seq h), hv⟩
  stop := fun Hs H s1 s2 => ⟨vs, s2.seq (s1.seq h), by rw [r.length]; exact Nat.le_refl _⟩
  yld := fun i d Hs H x H' s1 s2 hd ⟨e, hy⟩ => by
    subst e
    obtain ⟨v, hv, rv⟩ := r.get hd
    have q := hy vs (s2.seq (s1.seq h))
    rw [hv] at q
    cases q
    exact ⟨Hs, Lay.refl s2, rv.same s1⟩
theorem WalkD.tup {c : Cn} {Hs0 : Hp} {a : Addr} {vs : List V} {xs : List D} (h : SqT c.K Hs0 a vs) (r : RpA c Hs0 vs xs) : WalkD c Hs0 (Itt c.K a) xs where
  go := fun i Hs H s1 s2 hi => by
    obtain ⟨v, hv, _⟩ := r.get (List.getElem?_eq_getElem hi)
    exact ⟨vs, v, SqT_same s2 (SqT_same s1 h), hv⟩
  stop := fun Hs H s1 s2 => ⟨vs, SqT_same s2 (SqT_same s1 h), by rw [r.length]; exact Nat.le_refl _⟩
  yld := fun i d Hs H x H' s1 s2 hd ⟨e, hy⟩ => by
    subst e
    obtain ⟨v, hv, rv⟩ := r.get hd
    have q := hy vs (SqT_same s2 (SqT_same s1 h))
    rw [hv] at q
    cases q
    exact ⟨Hs, Lay.refl s2, rv.same s1⟩
/-- the signs of a text -/
def signsD (x : Str) : List D := x.cps.toList.map fun k => .str ⟨#[k]⟩
theorem WalkD.str {c : Cn} {Hs0 : Hp} (x : Str) : WalkD c Hs0 (Its x) (signsD x) where
  go := fun i Hs H _ _ hi => by
    show i < x.cps.size
    simpa [signsD] using hi
  stop := fun Hs H _ _ => by
    show x.cps.size ≤ (signsD x).length
    simp [signsD]
  yld := fun i d Hs H v H' s1 s2 hd ⟨e, k, hk, hv⟩ => by
    subst e hv
    have : (signsD x)[i]? = some (.str ⟨#[k]⟩) := by
      unfold signsD
      rw [List.getElem?_map, Array.getElem?_toList, hk]
      rfl
    rw [this] at hd
    cases hd
    exact ⟨Hs, Lay.refl s2, .str (by show 1 ≤ sizeLine; decide)⟩
def rangeD (lo : Int) (n : Nat) : List D := (List.range n).map fun k => .int (lo + (k : Nat))
theorem WalkD.range {c : Cn} {Hs0 : Hp} (lo : Int) (n : Nat) : WalkD c Hs0 (Itr lo n) (rangeD lo n) where
  go := fun i Hs H _ _ hi => by
    show i < n
    simpa [rangeD] using hi
  stop := fun Hs H _ _ => by
    show n ≤ (rangeD lo n).length
    simp [rangeD]
  yld := fun i d Hs H v H' s1 s2 hd ⟨e, hv⟩ => by
    subst e hv
    have hi : i < n := by
      have := (List.getElem?_eq_some_iff.mp hd).1
      simpa [rangeD] using this
    have : (rangeD lo n)[i]? = some (.int (lo + (i : Nat))) := by
      unfold rangeD
      rw [List.getElem?_map, List.getElem?_range hi]
      rfl
    rw [this] at hd
    cases hd
    exact ⟨Hs, Lay.refl s2, .int _⟩

/-! ### a dict by its keys -/
/-- the keys of the very dict o at d -/
def Ikx (d : Addr) (o : Obj) (es : List DictEntry) : It :=
  ⟨fun i H => H d = some (.ext (DAt d o)) ∧ i < es.length, fun i H x H' => H' = H ∧ ∃ e, es[i]? = some e ∧ RelV x e.key, fun i H => H d = some (.ext (DAt d o)) ∧ es.length ≤ i⟩
theorem Inv.dat {X : Cx} {pins : List (Addr × Obj)} {σ : L2.St} {H : Hp} {s : Shared} {d : Addr} {o : Obj} (I : Inv X pins σ H s) (h : H d = some (.ext (DAt d o))) : s.heap.get? d = some o := by
  obtain ⟨p, _⟩ := I.hok d _ h
  exact p
theorem turn_kx {P : Program} {w : World} {K : PySem.W.Frag} {tg : Expr} {d : Addr} {o : Obj} {es : List DictEntry} (it : Addr) {ep : Nat} (hod : o.data = .dict es.toArray ep) (hex : o.ExactDict) (hv : ∀ e ∈ es, ∃ x, RelV x e.key) :
    Turn P w K tg (Ikx d o es) [it] it (fun i h => h.IsKeyIter it d i es.length ep) where
  mem := by simp
  obj := fun i h st b hb => by
    have e : b = it := by simpa using hb
    subst e
    obtain ⟨oi, e, c, dd⟩ := st
    exact ⟨oi, e, fun v z => by rw [dd] at z; cases z⟩
  keep := fun i h h' st k => st.at fun oi e => k it (by simp) oi e
  item := by
    intro X hP hw hK hc i pins s σ H E I hf st hg
    subst hP hw hK
    obtain ⟨hd, hi⟩ := hg
    obtain ⟨f0, f1, f2, f3, f4, f5⟩ := hf it (by simp)
    have hm : s.heap.DictRaw d es.toArray ep := ⟨o, Inv.dat I hd, hex, hod⟩
    have st2 : s.heap.IsKeyIter it d i es.toArray.size ep := by simpa using st
    refine wpAny_pyNext_keys_item_raw st2 hm (by simpa using hi) fun h' st' sb => ?_
    have I1 : Inv X pins σ H { s with heap := h' } := I.turned (t' := s.toks) (fun b ob hb e => (sb.2 b hb).trans e) f0 f1 f3 f4 f5
    obtain ⟨x, hx⟩ := hv es[i] (List.getElem_mem hi)
    obtain ⟨oi, e, cc, dd⟩ := id st'
    refine ⟨_, rfl, go_of (s := { s with heap := h' }) e cc dd (by decide) ⟨x, H, I1, by simpa using hx, ⟨rfl, es[i], List.getElem?_eq_getElem hi, hx⟩, by simpa using st', fun b hb => (hf b hb).1⟩⟩
  done := by
    intro X hP hw hK hc i pins s σ H E I hf st hg
    subst hP hw hK
    obtain ⟨hd, hi⟩ := hg
    obtain ⟨f0, f1, f2, f3, f4, f5⟩ := hf it (by simp)
    have hm : s.heap.DictRaw d es.toArray ep := ⟨o, Inv.dat I hd, hex, hod⟩
    have st2 : s.heap.IsKeyIter it d i es.toArray.size ep := by simpa using st
    exact wpAny_pyNext_keys_end_raw (I.ok.hd hc) st2 hm (by simpa using hi) fun h' eb => ⟨rfl, I.turned (t' := s.toks) (fun b ob hb e => eb b ob hb e) f0 f1 f3 f4 f5⟩
  self := fun A i s Q E st h => wpAny_pyIter_keyiter st h
theorem RpE.length {c : Cn} {H : Hp} : ∀ {es : List DictEntry} {kvs : List (D × D)}, RpE c H es kvs → es.length = kvs.length
  | _, _, .nil => rfl
  | _, _, .cons _ _ _ _ _ _ t => by rw [List.length_cons, List.length_cons, RpE.length t]
theorem RpE.keyAt {c : Cn} {H : Hp} : ∀ {es : List DictEntry} {kvs : List (D × D)} {i : Nat} {e : DictEntry}, RpE c H es kvs → es[i]? = some e → ∃ k d v u, kvs[i]? = some (k, d) ∧ RelV v e.key ∧ Rp c H v k ∧ RelV u e.val ∧ Rp c H u d
  | _, _, _, _, .nil, h => by simp at h
  | _, _, 0, e, .cons a b _ _ f g _, h => by
    simp at h
    subst h
    exact ⟨_, _, _, _, rfl, a, b, f, g⟩
  | _, _, i + 1, e, .cons _ _ _ _ _ _ t, h => by
    obtain ⟨k, d, v, u, q⟩ := RpE.keyAt (i := i) t (by simpa using h)
    exact ⟨k, d, v, u, by simpa using q⟩
theorem WalkD.keys {c : Cn} {Hs0 : Hp} {d : Addr} {o : Obj} {es : List DictEntry} {kvs : List (D × D)} (h : Hs0 d = some (.ext (DAt d o))) (r : RpE c Hs0 es kvs) : WalkD c Hs0 (Ikx d o es) (kvs.map (·.1)) where
  go := fun i Hs H s1 s2 hi => ⟨s2 _ _ (s1 _ _ h), by
    rw [List.length_map, ← r.length] at hi
    exact hi⟩
  stop := fun Hs H s1 s2 => ⟨s2 _ _ (s1 _ _ h), by rw [List.length_map, ← r.length]; exact Nat.le_refl _⟩
  yld := fun i k Hs H x H' s1 s2 hd ⟨e, en, he, hv⟩ => by
    subst e
    obtain ⟨k', d', v, u, h1, h2, h3, _⟩ := r.keyAt he
    rw [List.getElem?_map, h1] at hd
    cases hd
    have := hv.inj h2
    subst this
    exact ⟨Hs, Lay.refl s2, h3.same s1⟩

/-! ### the judgement -/
abbrev TDI (W : Wld) := Env → W.S → (List D → W.S → Prop) → Prop
def liftI (c : Cn) (W : Wld) (B : Bs W) (t : TDI W) : TI := fun σ H R => ∃ Hs ρ s R', Stt c W B σ H ρ s Hs ∧ t ρ s R' ∧ ∀ xs s' Hs' H' J, R' xs s' → Go W s Hs H s' Hs' H' → WalkD c Hs' J xs → R J H'
structure DI (W : Wld) (B : Bs W) (X : Cx) (tg e : Expr) (t : TDI W) : Prop where
  run : PI X tg e (liftI (cn X) W B t)
/-- the items of a datum -/
def itemsD : D → Option (List D)
  | .tup xs => some xs
  | .lst xs => some xs
  | .str x => some (signsD x)
  | .dic kvs => some (kvs.map (·.1))
  | _ => none
def dItems {W : Wld} (t : TD W) : TDI W := fun ρ s Q => t ρ s fun d s1 => ∃ xs, itemsD d = some xs ∧ (xs.length ≤ sizeLine → Q xs s1)
section
variable {W : Wld} {B : Bs W} {X : Cx} {tg e : Expr} {t : TD W} {pos : Pos}
/-- a value walked: a list, a tuple, a text, a dict -/
theorem di_val (h : DE W B X e t) : DI W B X tg e (dItems t) := by
  refine ⟨⟨fun pins s σ H R I hw => ?_⟩⟩
  obtain ⟨Hs, ρ, st, R', S, h1, k⟩ := hw
  refine thn (h.run.run pins s σ H (fun v H' => ∃ d s' Hs' xs, Go W st Hs H s' Hs' H' ∧ Rp (cn X) Hs' v d ∧ itemsD d = some xs ∧ (xs.length ≤ sizeLine → R' xs s')) I ⟨Hs, ρ, st, _, S, h1, fun d s' Hs' H' v hd g r => by
    obtain ⟨xs, e1, e2⟩ := hd
    exact ⟨d, s', Hs', xs, g, r, e1, e2⟩⟩) fun u s1 ⟨v, H1, I1, rv, d, s', Hs', xs, g, r, e1, e2⟩ => ?_
  cases r with
  | tup z hq ra =>
    cases e1
    cases rv
    obtain ⟨its, rv, p, hz⟩ := I1.tuple (SqT_same g.sub hq)
    refine wpAny_pyIter_tuple (show s1.heap.IsTuple _ its.toArray from p) ?_
    exact pi_one (tk := s1.toks) I1 _ (turn_tuple _ _) ⟨_, Heap.get?_push_size _ rfl, rfl, rfl⟩ (k _ s' Hs' H1 _ (e2 z) g (.tup hq ra))
  | lst z hq ra =>
    cases e1
    cases rv
    obtain ⟨its, rv, p, hz⟩ := I1.list (g.sub.seq hq)
    refine wpAny_pyIter_list p.isList ?_
    exact pi_one (tk := s1.toks) I1 _ (turn_list _ _) ⟨_, Heap.get?_push_size _ rfl, rfl, rfl⟩ (k _ s' Hs' H1 _ (e2 z) g (.list hq ra))
  | @str x z =>
    cases e1
    obtain ⟨tk, rfl⟩ := rv
    have q := k _ s' Hs' H1 _ (e2 (by simpa [signsD, Str.length] using z)) g (.str x)
    cases ha : x.cps.all (· < 128)
    · exact wpAny_pyIter_wide ha (pi_one (tk := s1.toks) I1 _ (turn_str _ x tk "str_iterator" (.inr rfl)) ⟨_, Heap.get?_push_size _ rfl, rfl, rfl⟩ q)
    · exact wpAny_pyIter_ascii ha (pi_one (tk := s1.toks) I1 _ (turn_str _ x tk "str_ascii_iterator" (.inl rfl)) ⟨_, Heap.get?_push_size _ rfl, rfl, rfl⟩ q)
  | @dic a o es kvs hd fx re nd =>
    cases e1
    cases rv
    obtain ⟨ep, hdt⟩ := fx.dt
    have hd1 := g.sub _ _ hd
    have hm : s1.heap.DictRaw a es.toArray ep := ⟨o, Inv.dat I1 hd1, fx.ex, hdt⟩
    have hvk : ∀ e ∈ es, ∃ x, RelV x e.key := fun e he => by
      obtain ⟨i, hi⟩ := List.mem_iff_getElem?.mp he
      obtain ⟨_, _, v, _, _, q, _⟩ := re.keyAt hi
      exact ⟨v, q⟩
    refine wpAny_pyIter_dict_raw fx.ns hm (pi_one (tk := s1.toks) I1 _ (turn_kx _ hdt fx.ex hvk) ⟨_, Heap.get?_push_size _ rfl, rfl, ?_⟩ (k _ s' Hs' H1 _ (e2 (by rw [List.length_map, ← re.length]; exact fx.sz)) g (.keys hd re)))
    simp
  | _ => cases e1
/-- range(n), range(a, b) -/
def dRange1 (t : TDA W) : TDI W := fun ρ s Q => t ρ s fun ds s1 => ∃ j : Int, ds = [.int j] ∧ -(2 ^ 62) ≤ j ∧ j < 2 ^ 62 ∧ Q (rangeD 0 j.toNat) s1
def dRange2 (t : TDA W) : TDI W := fun ρ s Q => t ρ s fun ds s1 => ∃ i j : Int, ds = [.int i, .int j] ∧ (-(2 ^ 62) ≤ i ∧ i < 2 ^ 62 ∧ -(2 ^ 62) ≤ j ∧ j < 2 ^ 62) ∧ Q (rangeD i (j - i).toNat) s1
theorem di_range1 {a : Expr} {ta : TDA W} {p : Pos} (hg : Gl X "range") (hm : X.mg "range" = none) (ha : DA W B X [a] ta) (hs : starEach [a] X.env = [(false, eval a X.env)] := by rfl) : DI W B X tg (.Call (.Name "range" p) [a] [] pos) (dRange1 ta) := by
  refine ⟨pi_imp (pi_range1 hg hm ha.run hs) fun σ H R h => ?_⟩
  obtain ⟨Hs, ρ, s, R', S, h1, k⟩ := h
  refine ⟨Hs, ρ, s, _, S, h1, fun ds s1 Hs1 H1 vs hR g ra => ?_⟩
  obtain ⟨j, rfl, b1, b2, q⟩ := hR
  cases ra with
  | cons r t =>
    cases t
    rw [r.intE]
    exact ⟨j, rfl, b1, b2, k _ s1 Hs1 H1 _ q g (.range 0 _)⟩
theorem di_range2 {a b : Expr} {ta : TDA W} {p : Pos} (hg : Gl X "range") (hm : X.mg "range" = none) (ha : DA W B X [a, b] ta) (hs : starEach [a, b] X.env = [(false, eval a X.env), (false, eval b X.env)] := by rfl) (hs2 : starEach [b] X.env = [(false, eval b X.env)] := by rfl) :
    DI W B X tg (.Call (.Name "range" p) [a, b] [] pos) (dRange2 ta) := by
  refine ⟨pi_imp (pi_range2 hg hm ha.run hs hs2) fun σ H R h => ?_⟩
  obtain ⟨Hs, ρ, s, R', S, h1, k⟩ := h
  refine ⟨Hs, ρ, s, _, S, h1, fun ds s1 Hs1 H1 vs hR g ra => ?_⟩
  obtain ⟨i, j, rfl, b1, q⟩ := hR
  cases ra with
  | cons r t =>
    cases t with
    | cons r' t =>
      cases t
      rw [r.intE, r'.intE]
      exact ⟨i, j, rfl, b1, k _ s1 Hs1 H1 _ q g (.range i _)⟩
end

/-! ### targets -/
abbrev TDG := D → Env → (Env → Prop) → Prop
/-- a target that stores at the slots is alone -/
def DG (X : Cx) (tg : Expr) (is : List Nat) (gt : TDG) : Prop := ∃ g, PG X tg g ∧ ∀ (W : Wld) (B : Bs W) σ H ρ s Hs x d R Q, Stt (cn X) W B σ H ρ s Hs → Rp (cn X) Hs x d → gt d ρ R →
  (∀ ρ' σ', R ρ' → Stt (cn X) W B σ' H ρ' s Hs → (∀ vs, (∀ i ∈ is, i ∈ vs) → wipe σ' vs = wipe σ vs) → Q σ' H) → g x σ H Q
def gtName (i : Nat) : TDG := fun d ρ R => R (ρ.set i (.d d))
theorem wipe_set {i : Nat} {v : Option V} : ∀ {vs : List Nat} {σ : L2.St}, i ∈ vs → wipe (σ.set i v) vs = wipe σ vs
  | [], _, h => by simp at h
  | j :: vs, σ, h => by
    show (wipe (σ.set i v) vs).set j none = (wipe σ vs).set j none
    by_cases e : i = j
    · subst e
      by_cases hm : i ∈ vs
      · rw [wipe_set hm]
      · have : ∀ (vs : List Nat) (σ : L2.St), i ∉ vs → wipe (σ.set i v) vs = (wipe σ vs).set i v := by
          intro vs
          induction vs with
          | nil => intro σ _; rfl
          | cons k ks ih =>
            intro σ hk
            rw [List.mem_cons, not_or] at hk
            show (wipe (σ.set i v) ks).set k none = ((wipe σ ks).set k none).set i v
            rw [ih σ hk.2, List.set_comm _ _ hk.1]
        rw [this vs σ hm, List.set_set]
    · have hm : i ∈ vs := by
        rcases List.mem_cons.mp h with q | q
        · exact absurd q e
        · exact q
      rw [wipe_set hm]
theorem dg_name {X : Cx} {i : Nat} {x : Str} {pos : Pos} (hN : X.N.Nodup) (hi : X.N[i]? = some x) (hx : Loc X.env.scope x) (hf : X.fn x = true ∨ X.env.scope.names.lookup x = some .local := by first | exact .inl rfl | exact .inr rfl | assumption) :
    DG X (.Name x pos) [i] (gtName i) := by
  refine ⟨_, pg_name hN hi hx hf, fun W B σ H ρ s Hs x d R Q S r h k => ?_⟩
  exact k _ _ h (S.set r) fun vs hv => wipe_set (hv i (by simp))
/-- several targets -/
abbrev TDGs := List D → Env → (Env → Prop) → Prop
def DGs (X : Cx) (ts : List Expr) (is : List Nat) (gt : TDGs) : Prop := ∃ g, PGs X ts g ∧ ∀ (W : Wld) (B : Bs W) σ H ρ s Hs xs ds R Q, Stt (cn X) W B σ H ρ s Hs → RpA (cn X) Hs xs ds → gt ds ρ R →
  (∀ ρ' σ', R ρ' → Stt (cn X) W B σ' H ρ' s Hs → (∀ vs, (∀ i ∈ is, i ∈ vs) → wipe σ' vs = wipe σ vs) → Q σ' H) → g xs σ H Q
def gtNil : TDGs := fun ds ρ R => ds = [] ∧ R ρ
def gtCons (g : TDG) (gs : TDGs) : TDGs := fun ds ρ R => ∃ d r, ds = d :: r ∧ g d ρ fun ρ' => gs r ρ' R
theorem dgs_nil {X : Cx} : DGs X [] [] gtNil := ⟨_, pgs_nil, fun W B σ H ρ s Hs xs ds R Q S r h k => by
  obtain ⟨rfl, h⟩ := h
  cases r
  exact ⟨rfl, k ρ σ h S fun _ _ => rfl⟩⟩
theorem dgs_cons {X : Cx} {e : Expr} {es : List Expr} {is js : List Nat} {g : TDG} {gs : TDGs} (h1 : DG X e is g) (h2 : DGs X es js gs)
    (hs : (assignEach (e :: es) X.env).map (·.2) = assign e X.env :: (assignEach es X.env).map (·.2) := by rfl) : DGs X (e :: es) (is ++ js) (gtCons g gs) := by
  obtain ⟨u1, p1, l1⟩ := h1
  obtain ⟨u2, p2, l2⟩ := h2
  refine ⟨_, pgs_cons p1 p2 hs, fun W B σ H ρ s Hs xs ds R Q S r h k => ?_⟩
  obtain ⟨d, ds', rfl, h⟩ := h
  cases r with
  | cons r rr =>
    refine ⟨_, _, rfl, l1 W B σ H ρ s Hs _ d _ _ S r h fun ρ1 σ1 h1 S1 w1 => ?_⟩
    refine l2 W B σ1 H ρ1 s Hs _ ds' _ _ S1 rr h1 fun ρ2 σ2 h2 S2 w2 => ?_
    exact k ρ2 σ2 h2 S2 fun vs hv => (w2 vs fun i hi => hv i (List.mem_append_right _ hi)).trans (w1 vs fun i hi => hv i (List.mem_append_left _ hi))
/-- (a, b, ..) = a tuple -/
def gtTup (n : Nat) (gs : TDGs) : TDG := fun d ρ R => ∃ ds, d = .tup ds ∧ ds.length = n ∧ gs ds ρ R
theorem dg_tup {X : Cx} {es : List Expr} {k : Nat} {pos : Pos} {is : List Nat} {gs : TDGs} {n : Nat} (hc : X.calm = true) (h : DGs X es is gs)
    (hn : (assignEach es X.env).length = n := by rfl) (hst : (assignEach es X.env).findIdx? (·.1) = none := by rfl) : DG X (.Tuple es k pos) is (gtTup n gs) := by
  obtain ⟨u, p, l⟩ := h
  refine ⟨_, pg_tup hc p hn hst, fun W B σ H ρ s Hs x d R Q S r h k => ?_⟩
  obtain ⟨ds, rfl, hl, h⟩ := h
  cases r with
  | tup z hq ra => exact ⟨_, _, rfl, SqT_same S.sub hq, by rw [ra.length]; exact hl, l W B σ H ρ s Hs _ ds R Q S ra h k⟩

/-! ### list comprehensions -/
def wipeD (ρ : Env) : List Nat → Env
  | [] => ρ
  | v :: vs => (wipeD ρ vs).set v .un
theorem Stt.wipe {c : Cn} {W : Wld} {B : Bs W} {σ : L2.St} {H : Hp} {ρ : Env} {s : W.S} {Hs : Hp} (S : Stt c W B σ H ρ s Hs) : ∀ vs : List Nat, Stt c W B (L2.wipe σ vs) H (wipeD ρ vs) s Hs
  | [] => S
  | v :: vs => (Stt.wipe S vs).forget
/-- the turns of a comprehension: body gives an item or leaves it out -/
def lcGo {S : Type} (body : D → S → (Option D → S → Prop) → Prop) : List D → List D → S → (List D → S → Prop) → Prop
  | [], acc, s, Q => Q acc s
  | x :: xs, acc, s, Q => body x s fun o s' => lcGo body xs (acc ++ o.toList) s' Q
structure DTs (W : Wld) (B : Bs W) (X : Cx) (ifs : List Expr) (t : TDB W) : Prop where
  run : PTs X ifs (liftT (cn X) W B t)
def dYes {W : Wld} : TDB W := fun _ s Q => Q true s
theorem pts_imp {X : Cx} {es : List Expr} {t t' : TT} (h : PTs X es t) (f : ∀ σ H Q, t' σ H Q → t σ H Q) : PTs X es t' := ⟨fun pins s σ H Q I w => h.run pins s σ H Q I (f _ _ _ w)⟩
section
variable {W : Wld} {B : Bs W} {X : Cx}
theorem dts_nil : DTs W B X [] dYes := ⟨pts_imp pts_nil fun σ H Q ⟨Hs, ρ, s, R, S, h1, k⟩ => k true s Hs H h1 (Go.refl S.sub S.rel)⟩
theorem dts_one {e : Expr} {t : TDB W} (h : DT W B X e t) : DTs W B X [e] t := ⟨pts_one h.run⟩
def lcBody (gt : TDG) (tt : TDB W) (te : TD W) (ρ : Env) : D → W.S → (Option D → W.S → Prop) → Prop := fun x s K => gt x ρ fun ρ2 => tt ρ2 s fun b s2 => if b = true then te ρ2 s2 fun d s3 => K (some d) s3 else K none s2
def dLc (ti : TDI W) (gt : TDG) (tt : TDB W) (te : TD W) (vs : List Nat) : TD W := fun ρ s Q => ti ρ s fun xs s1 => xs.length ≤ sizeLine ∧ lcGo (lcBody gt tt te (wipeD ρ vs)) xs [] s1 fun ys s2 => Q (.lst ys) s2

theorem lc_turns {tg : Expr} {ti : TDI W} {g : TG} {gt : TDG} {tt : TDB W} {te : TD W} {is vs : List Nat} {σ : L2.St} {H : Hp} {Q : VK} (hv : ∀ i ∈ is, i ∈ vs)
    (hg : ∀ (B : Bs W) σ H ρ s Hs x d R Q, Stt (cn X) W B σ H ρ s Hs → Rp (cn X) Hs x d → gt d ρ R → (∀ ρ' σ', R ρ' → Stt (cn X) W B σ' H ρ' s Hs → (∀ vs, (∀ i ∈ is, i ∈ vs) → wipe σ' vs = wipe σ vs) → Q σ' H) → g x σ H Q)
    (h : liftE (cn X) W B (dLc ti gt tt te vs) σ H Q) : tLc (liftI (cn X) W B ti) g (liftT (cn X) W B tt) (liftE (cn X) W B te) vs σ H Q := by
  obtain ⟨Hs, ρ, s, R, S, h1, k⟩ := h
  refine ⟨Hs, ρ, s, _, S, h1, fun xs s1 Hs1 H1 J hR g1 wk => ?_⟩
  obtain ⟨hz, hL⟩ := hR
  intro p hp
  have S1 := S.step g1
  have hps : Hs1 p = none := g1.sub.free hp
  have hpw : ¬ W.own s1 p := fun z => by
    have := W.there g1.rel z
    exact this hp
  -- the invariant
  refine ⟨fun i m H' => m = xs.length - i ∧ i ≤ xs.length ∧ ∃ Hs' s' acc vacc, Go W s1 Hs1 H1 s' Hs' H' ∧ H' p = some (.lst vacc) ∧ RpA (cn X) Hs' vacc acc ∧ acc.length ≤ i ∧ Hs' p = none ∧ ¬ W.own s' p ∧
    lcGo (lcBody gt tt te (wipeD ρ vs)) (xs.drop i) acc s' (fun ys s2 => R (.lst ys) s2), ⟨_, rfl, Nat.zero_le _, Hs1, s1, [], [], (Lay.mut g1.sub hp).go g1.rel, upd_same, .nil, Nat.le_refl _, hps, hpw, hL⟩, ?_⟩
  rintro i m H2 ⟨rfl, hi, Hs2, s2, acc, vacc, g2, hp2, ra, hacc, hps2, hpw2, hgo⟩
  by_cases hlt : i < xs.length
  · have hx : xs[i]? = some xs[i] := List.getElem?_eq_getElem hlt
    rw [List.drop_eq_getElem_cons hlt] at hgo
    refine .inr ⟨wk.go i Hs2 H2 g2.fz g2.sub hlt, fun H' => i + 1 ≤ xs.length ∧ ∃ Hs' s' acc vacc, Go W s1 Hs1 H1 s' Hs' H' ∧ H' p = some (.lst vacc) ∧ RpA (cn X) Hs' vacc acc ∧ acc.length ≤ i + 1 ∧ Hs' p = none ∧ ¬ W.own s' p ∧
      lcGo (lcBody gt tt te (wipeD ρ vs)) (xs.drop (i + 1)) acc s' (fun ys s2 => R (.lst ys) s2), fun H' h' => ⟨xs.length - (i + 1), by omega, rfl, h'⟩, fun x H3 hy => ?_⟩
    obtain ⟨Hs3, ly, rx⟩ := wk.yld i _ Hs2 H2 x H3 g2.fz g2.sub hx hy
    have g3 := ly.go g2.rel
    have S3 : Stt (cn X) W B (wipe σ vs) H3 (wipeD ρ vs) s2 Hs3 := ((S1.step g2).step g3).wipe vs
    have keep : ∀ {s' : W.S} {Hs' H' : Hp}, Go W s2 Hs3 H3 s' Hs' H' → H' p = some (.lst vacc) ∧ Hs' p = none ∧ ¬ W.own s' p := fun {s' Hs' H'} g => by
      have h3 : H3 p = some (.lst vacc) := g3.ext p _ hp2 hpw2
      have n3 : Hs3 p = none := by
        cases q : Hs3 p with
        | none => rfl
        | some u =>
          rcases g3.new p (by rw [q]; exact fun z => nomatch z) with z | z
          · exact absurd hps2 z
          · rw [hp2] at z; cases z
      refine ⟨g.ext p _ h3 hpw2, ?_, fun z => ?_⟩
      · cases q : Hs' p with
        | none => rfl
        | some u =>
          rcases g.new p (by rw [q]; exact fun z => nomatch z) with z | z
          · exact absurd n3 z
          · rw [h3] at z; cases z
      · rcases g.wn p z with y | y
        · exact hpw2 y
        · rw [h3] at y; cases y
    refine hg B (wipe σ vs) H3 (wipeD ρ vs) s2 Hs3 x _ _ _ S3 rx hgo fun ρ4 σ4 hR4 S4 w4 => ?_
    have ew : wipe σ4 vs = wipe σ vs := by
      rw [w4 vs hv]
      have : ∀ (us : List Nat) (τ : L2.St), (∀ i ∈ us, i ∈ vs) → wipe (wipe τ us) vs = wipe τ vs := by
        intro us
        induction us with
        | nil => intro τ _; rfl
        | cons j js ih =>
          intro τ hj
          show wipe ((wipe τ js).set j none) vs = wipe τ vs
          rw [wipe_set (hj j (by simp)), ih τ fun i hi => hj i (by simp [hi])]
      exact this vs σ fun i hi => hi
    refine ⟨ew, Hs3, ρ4, s2, _, S4, hR4, fun b s5 Hs5 H5 hR5 g5 => ?_⟩
    cases b with
    | false =>
      rw [if_neg Bool.false_ne_true] at hR5 ⊢
      obtain ⟨c1, c2, c3⟩ := keep g5
      rw [Option.toList_none, List.append_nil] at hR5
      exact ⟨hlt, Hs5, s5, acc, vacc, g2.trans (g3.trans g5), c1, (ra.same g3.fz).same g5.fz, by omega, c2, c3, hR5⟩
    | true =>
      rw [if_pos rfl] at hR5 ⊢
      refine ⟨Hs5, ρ4, s5, _, S4.step g5, hR5, fun d s6 Hs6 H6 v hR6 g6 rv => ?_⟩
      obtain ⟨c1, c2, c3⟩ := keep (g5.trans g6)
      have ra6 : RpA (cn X) Hs6 vacc acc := ((ra.same g3.fz).same g5.fz).same g6.fz
      refine ⟨vacc, c1, by rw [ra6.length]; omega, hlt, Hs6, s6, acc ++ [d], vacc ++ [v], ?_, upd_same, ra6.append (.one rv), by simp; omega, c2, c3, hR6⟩
      -- the item put in
      have gg := g2.trans (g3.trans (g5.trans g6))
      refine ⟨gg.fz, fun a u q => ?_, gg.new, fun a u q n => ?_, fun a q => ?_, gg.wn, W.keep gg.rel (Same.refl _) (fun _ _ z => z) fun a q => ?_⟩
      · rw [upd_ne (fun z => by rw [z, c2] at q; cases q)]
        exact gg.sub a u q
      · rw [upd_ne (fun z => by rw [z, hp] at q; cases q)]
        exact gg.ext a u q n
      · by_cases z : a = p
        · rw [z, upd_same]; exact fun y => nomatch y
        · rw [upd_ne z]; exact gg.th a q
      · rw [upd_ne (fun z => by rw [z] at q; exact c3 q)]
  · have e : i = xs.length := by omega
    subst e
    refine .inl ⟨wk.stop Hs2 H2 g2.fz g2.sub, ?_⟩
    rw [List.drop_length] at hgo
    have hs2 : Same Hs2 H2 := g2.sub
    refine k (.lst acc) s2 (upd Hs2 p (.lst vacc)) H2 _ hgo ?_ (.lstN hps2 (Nat.le_trans hacc hz) ra)
    have gg := g1.trans g2
    refine ⟨gg.fz.trans (Same.updR hps2), fun a u q => ?_, fun a q => ?_, gg.ext, gg.th, gg.wn, W.keep gg.rel (Same.updR hps2) (upd_keep hpw2) fun _ _ => rfl⟩
    · by_cases z : a = p
      · rw [z, upd_same] at q
        rw [z, hp2]
        exact q
      · rw [upd_ne z] at q
        exact hs2 a u q
    · by_cases z : a = p
      · right
        rw [z]
        exact free_of g1.th hp
      · rw [upd_ne z] at q
        exact gg.new a q
/-- [elt for tg in iter if ..] -/
theorem de_lc {elt tg iter : Expr} {ifs : List Expr} {scope : Scope} {own : List (Str × Nat)} {pos : Pos} {ti : TDI W} {is : List Nat} {gt : TDG} {tt : TDB W} {te : TD W} (hc : X.calm = true) (hN : X.N.Nodup) (hi : DI W B X tg iter ti) (ok : BlkOk X.N X.env.scope scope own)
    (hg : ∀ (s : Shared) (H : Hp) (C : Addr) (cl : List (Str × Addr)) (fp : List Addr), DG (X.blk s H scope (compEnvC scope cl C X.env) fp) tg is gt) (ht : ∀ (s : Shared) (H : Hp) (C : Addr) (cl : List (Str × Addr)) (fp : List Addr), DTs W B (X.blk s H scope (compEnvC scope cl C X.env) fp) ifs tt)
    (he : ∀ (s : Shared) (H : Hp) (C : Addr) (cl : List (Str × Addr)) (fp : List Addr), DE W B (X.blk s H scope (compEnvC scope cl C X.env) fp) elt te) (hv : ∀ i ∈ is, i ∈ own.map (·.2) := by decide) (hs : ∀ x, foldedSetIterable iter X.env x = pure x := by intro _; rfl) :
    DE W B X (.ListComp elt [⟨tg, iter, ifs, 0⟩] scope pos) (dLc ti gt tt te (own.map (·.2))) := by
  refine ⟨⟨fun pins s σ H Q I h => ?_⟩⟩
  -- a target's reading that serves in every block
  have hG : ∀ (s : Shared) (H : Hp) (C : Addr) (cl : List (Str × Addr)) (fp : List Addr), PG (X.blk s H scope (compEnvC scope cl C X.env) fp) tg (fun x σ H Q => ∃ (B : Bs W) (ρ : Env) (s : W.S) (Hs : Hp) (d : D) (R : Env → Prop), Stt (cn X) W B σ H ρ s Hs ∧ Rp (cn X) Hs x d ∧ gt d ρ R ∧
      ∀ ρ' σ', R ρ' → Stt (cn X) W B σ' H ρ' s Hs → (∀ vs, (∀ i ∈ is, i ∈ vs) → wipe σ' vs = wipe σ vs) → Q σ' H) := fun s H C cl fp => by
    obtain ⟨g, pg, l⟩ := hg s H C cl fp
    refine ⟨fun pins s1 σ H1 v u Q I1 r ⟨B, ρ, st, Hs, d, R, S, rx, h, k⟩ => ?_⟩
    exact pg.run pins s1 σ H1 v u Q I1 r (l W B σ H1 ρ st Hs v d R Q S rx h k)
  exact (pe_lc hc hN hi.run ok hG (fun s H C cl fp => (ht s H C cl fp).run) (fun s H C cl fp => (he s H C cl fp).run) hs).run pins s σ H Q I
    (lc_turns (tg := tg) (is := is) hv (fun B σ H ρ s Hs x d R Q S rx h k => ⟨B, ρ, s, Hs, d, R, S, rx, h, k⟩) h)
/-- name = [..] on one line -/
theorem lc_map {S : Type} {body : D → S → (Option D → S → Prop) → Prop} (f : D → D) : ∀ {xs acc : List D} {s : S} {Q : List D → S → Prop}, (∀ x ∈ xs, ∀ K : Option D → S → Prop, K (some (f x)) s → body x s K) → Q (acc ++ xs.map f) s → lcGo body xs acc s Q
  | [], acc, s, Q, _, q => by
    show Q acc s
    simpa using q
  | x :: xs, acc, s, Q, h, q => h x (by simp) _ (lc_map f (fun y hy => h y (by simp [hy])) (by simpa using q))
theorem lc_filterMap {S : Type} {body : D → S → (Option D → S → Prop) → Prop} (f : D → Option D) : ∀ {xs acc : List D} {s : S} {Q : List D → S → Prop}, (∀ x ∈ xs, ∀ K : Option D → S → Prop, K (f x) s → body x s K) → Q (acc ++ xs.filterMap f) s → lcGo body xs acc s Q
  | [], acc, s, Q, _, q => by
    show Q acc s
    simpa using q
  | x :: xs, acc, s, Q, h, q => h x (by simp) _ (lc_filterMap f (fun y hy => h y (by simp [hy])) (by
      rw [List.filterMap_cons] at q
      cases e : f x with
      | none => rw [e] at q; simpa using q
      | some z => rw [e] at q; simpa using q))
end
end Dv

set_option Elab.async false
set_option linter.all false
set_option maxRecDepth 100000
/-! Statements and defs over data. -/
namespace Dv
open PySem L2

structure EndsD (W : Wld) where
  nx : Env → W.S → Prop
  rt : D → W.S → Prop
  bk : Env → W.S → Prop := fun _ _ => False
  ct : Env → W.S → Prop := fun _ _ => False
abbrev TDS (W : Wld) := EndsD W → Env → W.S → Prop
structure AftS (c : Cn) (W : Wld) (B : Bs W) (Hs : Hp) (E : EndsD W) (D : Ends) : Prop where
  nx : ∀ ρ s Hs' σ H, E.nx ρ s → Same Hs Hs' → Stt c W B σ H ρ s Hs' → D.nx σ H
  rt : ∀ d s Hs' H v, E.rt d s → Go W B.s B.Hs B.H s Hs' H → Rp c Hs' v d → D.rt v H
  bk : ∀ ρ s Hs' σ H, E.bk ρ s → Same Hs Hs' → Stt c W B σ H ρ s Hs' → D.bk σ H
  ct : ∀ ρ s Hs' σ H, E.ct ρ s → Same Hs Hs' → Stt c W B σ H ρ s Hs' → D.ct σ H
theorem AftS.same {c : Cn} {W : Wld} {B : Bs W} {Hs Hs1 : Hp} {E : EndsD W} {D : Ends} (h : AftS c W B Hs E D) (e : Same Hs Hs1) : AftS c W B Hs1 E D :=
  ⟨fun ρ s Hs' σ H a b => h.nx ρ s Hs' σ H a (e.trans b), h.rt, fun ρ s Hs' σ H a b => h.bk ρ s Hs' σ H a (e.trans b), fun ρ s Hs' σ H a b => h.ct ρ s Hs' σ H a (e.trans b)⟩
def liftS (c : Cn) (W : Wld) (B : Bs W) (t : TDS W) : TS := fun D σ H => ∃ Hs ρ s E, Stt c W B σ H ρ s Hs ∧ t E ρ s ∧ AftS c W B Hs E D
structure DS (W : Wld) (B : Bs W) (X : Cx) (st : Stmt) (t : TDS W) : Prop where
  run : PS X st (liftS (cn X) W B t)
structure DSs (W : Wld) (B : Bs W) (X : Cx) (st : List Stmt) (t : TDS W) : Prop where
  run : PSs X st (liftS (cn X) W B t)

/-! ### own things made data -/
theorem Stt.freeze {c : Cn} {W : Wld} {B : Bs W} {σ : L2.St} {H : Hp} {ρ : Env} {s : W.S} {Hs : Hp} {i : Nat} {b : Ob} (S : Stt c W B σ H ρ s Hs) (e : ρ[i]? = some (.own b)) :
    ∃ Hs', Same Hs Hs' ∧ Stt c W B σ H (ρ.set i (.d (match b with | .lst xs => .lst xs | .dic kvs => .dic kvs))) s Hs' := by
  obtain ⟨p, o, a1, a2, a3, a4, a5, a6⟩ := S.ow i b e
  have hs := Same.updR (o := o) a4
  have hi : i < ρ.length := (List.getElem?_eq_some_iff.mp e).1
  have hn : ∀ (j : Nat) (x : Slot) (y : D), x ≠ .d y → (ρ.set i (.d y))[j]? = some x → j ≠ i ∧ ρ[j]? = some x := fun j x y hx ex => by
    by_cases q : i = j
    · subst q
      rw [List.getElem?_set_self hi] at ex
      cases ex
      exact absurd rfl hx
    · rw [List.getElem?_set_ne q] at ex
      exact ⟨fun z => q z.symm, ex⟩
  refine ⟨upd Hs p o, hs, ⟨S.go.fz.trans hs, fun a u q => ?_, fun a q => ?_, S.go.ext, S.go.th, S.go.wn, W.keep S.go.rel hs (upd_keep a5) fun _ _ => rfl⟩, by simpa using S.len, fun j d ej => ?_, fun j b' ej => ?_, fun j k b1 b2 q e1 e2 e3 e4 => ?_⟩
  · by_cases z : a = p
    · rw [z, upd_same] at q
      rw [z, a2]
      exact q
    · rw [upd_ne z] at q
      exact S.go.sub a u q
  · by_cases z : a = p
    · right; rw [z]; exact a6
    · rw [upd_ne z] at q
      exact S.go.new a q
  · by_cases q : i = j
    · subst q
      rw [List.getElem?_set_self hi] at ej
      cases ej
      refine ⟨_, a1, ?_⟩
      cases a3 with
      | lst z r => exact .lst z (SqL.of upd_same) (r.same hs)
      | dic x r n => exact .dic upd_same x (r.same hs) n
    · rw [List.getElem?_set_ne q] at ej
      obtain ⟨v, h1, h2⟩ := S.dat j d ej
      exact ⟨v, h1, h2.same hs⟩
  · obtain ⟨h1, h2⟩ := hn j (.own b') _ (fun z => nomatch z) ej
    obtain ⟨p', o', c1, c2, c3, c4, c5, c6⟩ := S.ow j b' h2
    refine ⟨p', o', c1, c2, c3.same hs, ?_, c5, c6⟩
    rw [upd_ne fun z => ?_]
    · exact c4
    · subst z
      exact h1 (S.ap j i b' b p' h2 e c1 a1)
  · obtain ⟨h1, h2⟩ := hn j (.own b1) _ (fun z => nomatch z) e1
    obtain ⟨h3, h4⟩ := hn k (.own b2) _ (fun z => nomatch z) e2
    exact S.ap j k b1 b2 q h2 h4 e3 e4

section
variable {W : Wld} {B : Bs W} {X : Cx} {st : Stmt} {rest : List Stmt} {t u : TDS W} {e : Expr} {te : TD W} {pos : Pos}
/-! ### blocks -/
def dNext : TDS W := fun E ρ s => E.nx ρ s
def dSeq (t u : TDS W) : TDS W := fun E ρ s => t { E with nx := u E } ρ s
theorem dss_nil : DSs W B X [] dNext := ⟨pss_imp pss_nil fun D σ H ⟨Hs, ρ, s, E, S, h1, k⟩ => k.nx ρ s Hs σ H h1 (Same.refl _) S⟩
theorem dss_cons (h1 : DS W B X st t) (h2 : DSs W B X rest u) : DSs W B X (st :: rest) (dSeq t u) := by
  refine ⟨pss_imp (pss_cons h1.run h2.run) fun D σ H ⟨Hs, ρ, s, E, S, h, k⟩ => ?_⟩
  exact ⟨Hs, ρ, s, _, S, h, ⟨fun ρ' s' Hs' σ' H' a b S' => ⟨Hs', ρ', s', E, S', a, k.same b⟩, k.rt, k.bk, k.ct⟩⟩
theorem dss_one (h1 : DS W B X st t) : DSs W B X [st] t := ⟨pss_one h1.run⟩
/-- a thing of one's own in slot i is from here on data -/
def dFreeze (i : Nat) (t : TDS W) : TDS W := fun E ρ s => (∃ xs, ρ[i]? = some (.own (.lst xs)) ∧ t E (ρ.set i (.d (.lst xs))) s) ∨ ∃ kvs, ρ[i]? = some (.own (.dic kvs)) ∧ t E (ρ.set i (.d (.dic kvs))) s
theorem dss_freeze (i : Nat) (h : DSs W B X rest t) : DSs W B X rest (dFreeze i t) := ⟨pss_imp h.run fun D σ H ⟨Hs, ρ, s, E, S, h, k⟩ => by
  rcases h with ⟨xs, e, h⟩ | ⟨xs, e, h⟩
  · obtain ⟨Hs', hs, S'⟩ := S.freeze e
    exact ⟨Hs', _, s, E, S', h, k.same hs⟩
  · obtain ⟨Hs', hs, S'⟩ := S.freeze e
    exact ⟨Hs', _, s, E, S', h, k.same hs⟩⟩
theorem ds_freeze (i : Nat) (h : DS W B X st t) : DS W B X st (dFreeze i t) := ⟨ps_imp h.run fun D σ H ⟨Hs, ρ, s, E, S, h, k⟩ => by
  rcases h with ⟨xs, e, h⟩ | ⟨xs, e, h⟩
  · obtain ⟨Hs', hs, S'⟩ := S.freeze e
    exact ⟨Hs', _, s, E, S', h, k.same hs⟩
  · obtain ⟨Hs', hs, S'⟩ := S.freeze e
    exact ⟨Hs', _, s, E, S', h, k.same hs⟩⟩
/-! ### small statements -/
theorem ds_pass : DS W B X (.Pass pos) dNext := ⟨ps_imp ps_pass fun D σ H ⟨Hs, ρ, s, E, S, h1, k⟩ => k.nx ρ s Hs σ H h1 (Same.refl _) S⟩
def dBreak : TDS W := fun E ρ s => E.bk ρ s
def dCont : TDS W := fun E ρ s => E.ct ρ s
theorem ds_break : DS W B X (.Break pos) dBreak := ⟨ps_imp ps_break fun D σ H ⟨Hs, ρ, s, E, S, h1, k⟩ => k.bk ρ s Hs σ H h1 (Same.refl _) S⟩
theorem ds_continue : DS W B X (.Continue pos) dCont := ⟨ps_imp ps_continue fun D σ H ⟨Hs, ρ, s, E, S, h1, k⟩ => k.ct ρ s Hs σ H h1 (Same.refl _) S⟩
def dDrop (te : TD W) : TDS W := fun E ρ s => te ρ s fun _ s1 => E.nx ρ s1
theorem ds_expr (he : DE W B X e te) (hs : swapsWith e none pos.line X.env = pure false := by rfl) : DS W B X (.Expr e pos) (dDrop te) := ⟨ps_imp (ps_expr he.run hs) fun D σ H ⟨Hs, ρ, s, E, S, h1, k⟩ =>
  ⟨Hs, ρ, s, _, S, h1, fun d s1 Hs1 H1 v hR g r => k.nx ρ s1 Hs1 σ H1 hR g.fz (S.step g)⟩⟩
def dRet (te : TD W) : TDS W := fun E ρ s => te ρ s E.rt
theorem ds_ret (he : DE W B X e te) : DS W B X (.Return (some e) pos) (dRet te) := ⟨ps_imp (ps_ret he.run) fun D σ H ⟨Hs, ρ, s, E, S, h1, k⟩ =>
  ⟨Hs, ρ, s, _, S, h1, fun d s1 Hs1 H1 v hR g r => k.rt d s1 Hs1 H1 v hR (S.go.trans g) r⟩⟩
def dRetN : TDS W := fun E _ s => E.rt .non s
theorem ds_retN : DS W B X (.Return none pos) dRetN := ⟨ps_imp ps_retN fun D σ H ⟨Hs, ρ, s, E, S, h1, k⟩ => k.rt .non s Hs H .non h1 S.go .non⟩
def dIfS (c : TDB W) (t u : TDS W) : TDS W := fun E ρ s => c ρ s fun b s1 => if b = true then t E ρ s1 else u E ρ s1
theorem ds_if {c : Expr} {a b : List Stmt} {tc : TDB W} (hc : DT W B X c tc) (ha : DSs W B X a t) (hb : DSs W B X b u) : DS W B X (.If c a b pos) (dIfS tc t u) := by
  refine ⟨ps_imp (ps_if hc.run ha.run hb.run) fun D σ H ⟨Hs, ρ, s, E, S, h1, k⟩ => ?_⟩
  refine ⟨Hs, ρ, s, _, S, h1, fun b s1 Hs1 H1 hR g => ?_⟩
  cases b with
  | true =>
    rw [if_pos rfl] at hR ⊢
    exact ⟨Hs1, ρ, s1, E, S.step g, hR, k.same g.fz⟩
  | false =>
    rw [if_neg Bool.false_ne_true] at hR ⊢
    exact ⟨Hs1, ρ, s1, E, S.step g, hR, k.same g.fz⟩
/-! ### stores -/
def dSet (te : TD W) (gt : TDG) : TDS W := fun E ρ s => te ρ s fun d s1 => gt d ρ fun ρ' => E.nx ρ' s1
theorem ds_set {i : Nat} {x : Str} {pos' : Pos} (hN : X.N.Nodup) (hi : X.N[i]? = some x) (hx : Loc X.env.scope x) (he : DE W B X e te) (hs : swapsWith e (some (.Name x pos')) pos.line X.env = pure false := by rfl) (hf : X.fn x = true ∨ X.env.scope.names.lookup x = some .local := by first | exact .inl rfl | exact .inr rfl | assumption) :
    DS W B X (.Assign [.Name x pos'] e pos) (dSet te (gtName i)) := ⟨ps_imp (ps_set hN hi hx he.run hs hf) fun D σ H ⟨Hs, ρ, s, E, S, h1, k⟩ =>
  ⟨Hs, ρ, s, _, S, h1, fun d s1 Hs1 H1 v hR g r => k.nx _ s1 Hs1 _ H1 hR g.fz ((S.step g).set r)⟩⟩
theorem ds_asg {tg : Expr} {is : List Nat} {gt : TDG} (he : DE W B X e te) (hg : DG X tg is gt) (hs : swapsWithSole [tg] e pos.line X.env = pure false := by rfl) (hw : swappedStores [tg] e X.env = pure none := by rfl)
    (h1 : (assignEach [tg] X.env).map (·.2) = [assign tg X.env] := by rfl) : DS W B X (.Assign [tg] e pos) (dSet te gt) := by
  obtain ⟨g, pg, l⟩ := hg
  exact ⟨ps_imp (ps_asg he.run pg hs hw h1) fun D σ H ⟨Hs, ρ, s, E, S, h1, k⟩ =>
    ⟨Hs, ρ, s, _, S, h1, fun d s1 Hs1 H1 v hR g r => l W B σ H1 ρ s1 Hs1 v d _ _ (S.step g) r hR fun ρ' σ' hR' S' _ => k.nx ρ' s1 Hs1 σ' H1 hR' g.fz S'⟩⟩
def dPar (i j : Nat) (ta : TDA W) : TDS W := fun E ρ s => ta ρ s fun ds s1 => ∃ d e, ds = [d, e] ∧ E.nx ((ρ.set i (.d d)).set j (.d e)) s1
theorem ds_par {i j : Nat} {x y : Str} {a b : Expr} {ta : TDA W} {px py pt : Pos} {kt k2 : Nat} {pt2 : Pos} (hc : X.calm = true) (hN : X.N.Nodup) (hi : X.N[i]? = some x) (hj : X.N[j]? = some y) (hij : i ≠ j)
    (hx : X.env.scope.names.lookup x = some .local) (hy : X.env.scope.names.lookup y = some .local) (ha : DA W B X [a, b] ta)
    (hw : swappedStores [.Tuple [.Name x px, .Name y py] kt pt] (.Tuple [a, b] k2 pt2) X.env = pure (some [x, y]) := by rfl)
    (hs : swapsWithSole [.Tuple [.Name x px, .Name y py] kt pt] (.Tuple [a, b] k2 pt2) pos.line X.env = pure false := by rfl) :
    DS W B X (.Assign [.Tuple [.Name x px, .Name y py] kt pt] (.Tuple [a, b] k2 pt2) pos) (dPar i j ta) := ⟨ps_imp (ps_par hc hN hi hj hij hx hy ha.run hw hs) fun D σ H ⟨Hs, ρ, s, E, S, h1, k⟩ => by
  refine ⟨Hs, ρ, s, _, S, h1, fun ds s1 Hs1 H1 vs hR g r => ?_⟩
  obtain ⟨d, e, rfl, q⟩ := hR
  cases r with
  | cons r1 r =>
    cases r with
    | cons r2 r =>
      cases r
      exact ⟨_, _, rfl, k.nx _ s1 Hs1 _ H1 q g.fz (((S.step g).set r1).set r2)⟩⟩
/-- name op= e -/
def dAug (i : Nat) (te : TD W) (p : P2) : TDS W := fun E ρ s => ∃ x, ρ[i]? = some (.d x) ∧ te ρ s fun y s1 => p x y fun z => E.nx (ρ.set i (.d z)) s1
def IpD (X : Cx) (op : Operator) (p : P2) : Prop := ∃ r, PIp X op r ∧ Lk2 X r p
theorem ds_aug {i : Nat} {x : Str} {op : Operator} {p : P2} {pos' : Pos} (hN : X.N.Nodup) (hi : X.N[i]? = some x) (hx : Loc X.env.scope x) (he : DE W B X e te) (ho : IpD X op p) (hf : X.fn x = true ∨ X.env.scope.names.lookup x = some .local := by first | exact .inl rfl | exact .inr rfl | assumption) :
    DS W B X (.AugAssign (.Name x pos') op e pos) (dAug i te p) := by
  obtain ⟨r, hr, l⟩ := ho
  refine ⟨ps_imp (ps_aug hN hi hx he.run hr hf) fun D σ H ⟨Hs, ρ, s, E, S, ⟨d, e1, h1⟩, k⟩ => ?_⟩
  obtain ⟨v, ev, rv⟩ := S.dat i d e1
  refine ⟨v, ev, Hs, ρ, s, _, S, h1, fun y s1 Hs1 H1 u hR g ru => ?_⟩
  refine l Hs1 H1 v u d y _ _ g.sub (rv.same g.fz) ru hR fun z Hs2 H2 w hz ly rz => ?_
  have g2 := g.trans (ly.go g.rel)
  exact k.nx _ s1 Hs2 _ H2 hz g2.fz ((S.step g2).set rz)

/-! ### loops -/
def forGo (body : D → TDS W) (E : EndsD W) : List D → Env → W.S → Prop
  | [], ρ, s => E.nx ρ s
  | x :: xs, ρ, s => body x { nx := forGo body E xs, rt := E.rt, bk := E.nx, ct := forGo body E xs } ρ s
def dFor (ti : TDI W) (gt : TDG) (tb : TDS W) : TDS W := fun E ρ s => ti ρ s fun xs s1 => forGo (fun x E ρ s => gt x ρ fun ρ' => tb E ρ' s) E xs ρ s1
theorem ds_for {tg iter : Expr} {body : List Stmt} {ti : TDI W} {is : List Nat} {gt : TDG} {tb : TDS W} (hp : PassesOwn (model X.prog X.w) X.A X.env X.xe) (hc : X.calm = true) (hi : DI W B X tg iter ti) (hg : DG X tg is gt) (hb : DSs W B X body tb)
    (hs : ∀ x, foldedSetIterable iter X.env x = pure x := by intro _; rfl) : DS W B X (.For tg iter body [] pos) (dFor ti gt tb) := by
  obtain ⟨g, pg, l⟩ := hg
  refine ⟨ps_imp (ps_for hp hc hi.run pg hb.run hs) fun D σ H ⟨Hs, ρ, s, E, S, h1, k⟩ => ?_⟩
  refine ⟨Hs, ρ, s, _, S, h1, fun xs s1 Hs1 H1 J hR g1 wk => ?_⟩
  refine ⟨fun i m σ H => m = xs.length - i ∧ i ≤ xs.length ∧ ∃ Hs' ρ' s', Same Hs1 Hs' ∧ Stt (cn X) W B σ H ρ' s' Hs' ∧ forGo (fun x E ρ s => gt x ρ fun ρ' => tb E ρ' s) E (xs.drop i) ρ' s', ⟨_, rfl, Nat.zero_le _, Hs1, ρ, s1, Same.refl _, S.step g1, hR⟩, ?_⟩
  rintro i m σ2 H2 ⟨rfl, hi, Hs2, ρ2, s2, e2, S2, hgo⟩
  by_cases hlt : i < xs.length
  · have hx : xs[i]? = some xs[i] := List.getElem?_eq_getElem hlt
    rw [List.drop_eq_getElem_cons hlt] at hgo
    refine .inr ⟨wk.go i Hs2 H2 e2 S2.sub hlt, fun σ H => i + 1 ≤ xs.length ∧ ∃ Hs' ρ' s', Same Hs1 Hs' ∧ Stt (cn X) W B σ H ρ' s' Hs' ∧ forGo (fun x E ρ s => gt x ρ fun ρ' => tb E ρ' s) E (xs.drop (i + 1)) ρ' s', fun σ' H' h' => ⟨xs.length - (i + 1), by omega, rfl, h'⟩, fun x H3 hy => ?_⟩
    obtain ⟨Hs3, ly, rx⟩ := wk.yld i _ Hs2 H2 x H3 e2 S2.sub hx hy
    have g3 := ly.go S2.rel
    refine l W B σ2 H3 ρ2 s2 Hs3 x _ _ _ (S2.step g3) rx hgo fun ρ4 σ4 hR4 S4 _ => ?_
    refine ⟨Hs3, ρ4, s2, _, S4, hR4, ⟨fun ρ' s' Hs' σ' H' a b S' => ⟨hlt, Hs', ρ', s', e2.trans (g3.fz.trans b), S', a⟩, k.rt, fun ρ' s' Hs' σ' H' a b S' => k.nx ρ' s' Hs' σ' H' a (g1.fz.trans (e2.trans (g3.fz.trans b))) S', fun ρ' s' Hs' σ' H' a b S' => ⟨hlt, Hs', ρ', s', e2.trans (g3.fz.trans b), S', a⟩⟩⟩
  · have e : i = xs.length := by omega
    subst e
    rw [List.drop_length] at hgo
    exact .inl ⟨wk.stop Hs2 H2 e2 S2.sub, k.nx ρ2 s2 Hs2 σ2 H2 hgo (g1.fz.trans e2) S2⟩
def dWhile (c : TDB W) (tb : TDS W) : TDS W := fun E ρ s => ∃ N : Nat → Env → W.S → Prop, (∃ m, N m ρ s) ∧ ∀ m ρ s, N m ρ s → c ρ s fun b s1 => if b = true then
  tb { nx := fun ρ' s' => ∃ m', m' < m ∧ N m' ρ' s', rt := E.rt, bk := E.nx, ct := fun ρ' s' => ∃ m', m' < m ∧ N m' ρ' s' } ρ s1 else E.nx ρ s1
theorem ds_while {c : Expr} {body : List Stmt} {tc : TDB W} {tb : TDS W} (hp : PassesOwn (model X.prog X.w) X.A X.env X.xe) (hc : DT W B X c tc) (hb : DSs W B X body tb) : DS W B X (.While c body [] pos) (dWhile tc tb) := by
  refine ⟨ps_imp (ps_while hp hc.run hb.run) fun D σ H ⟨Hs, ρ, s, E, S, ⟨N, ⟨m0, h0⟩, h1⟩, k⟩ => ?_⟩
  refine ⟨fun m σ H => ∃ Hs' ρ' s', Same Hs Hs' ∧ Stt (cn X) W B σ H ρ' s' Hs' ∧ N m ρ' s', ⟨m0, Hs, ρ, s, Same.refl _, S, h0⟩, fun m σ2 H2 ⟨Hs2, ρ2, s2, e2, S2, n2⟩ => ?_⟩
  refine ⟨Hs2, ρ2, s2, _, S2, h1 m ρ2 s2 n2, fun b s3 Hs3 H3 hR g3 => ?_⟩
  cases b with
  | true =>
    rw [if_pos rfl] at hR ⊢
    refine ⟨fun σ' H' => ∃ Hs' ρ' s' m', Same Hs Hs' ∧ Stt (cn X) W B σ' H' ρ' s' Hs' ∧ m' < m ∧ N m' ρ' s', fun σ' H' ⟨Hs', ρ', s', m', a, b, c, d⟩ => ⟨m', c, Hs', ρ', s', a, b, d⟩, ?_⟩
    refine ⟨Hs3, ρ2, s3, _, S2.step g3, hR, ⟨fun ρ' s' Hs' σ' H' ⟨m', a, b⟩ d S' => ⟨Hs', ρ', s', m', e2.trans (g3.fz.trans d), S', a, b⟩, k.rt, fun ρ' s' Hs' σ' H' a d S' => k.nx ρ' s' Hs' σ' H' a (e2.trans (g3.fz.trans d)) S', fun ρ' s' Hs' σ' H' ⟨m', a, b⟩ d S' => ⟨Hs', ρ', s', m', e2.trans (g3.fz.trans d), S', a, b⟩⟩⟩
  | false =>
    rw [if_neg Bool.false_ne_true] at hR ⊢
    exact k.nx ρ2 s3 Hs3 σ2 H3 hR (e2.trans g3.fz) (S2.step g3)

/-! ### lists of one's own -/
abbrev TDF (W : Wld) := Env → W.S → (List D → W.S → Prop) → Prop
abbrev AftF (c : Cn) (W : Wld) (s : W.S) (Hs H : Hp) (R : List D → W.S → Prop) (Q : VK) : Prop := ∀ xs s' Hs' H' p vs, R xs s' → Go W s Hs H s' Hs' H' → H' p = some (.lst vs) → RpA c Hs' vs xs → Hs' p = none → ¬ W.own s' p → H p = none → xs.length ≤ sizeLine → Q (.ref p) H'
def liftF (c : Cn) (W : Wld) (B : Bs W) (t : TDF W) : TE := fun σ H Q => ∃ Hs ρ s R, Stt c W B σ H ρ s Hs ∧ t ρ s R ∧ AftF c W s Hs H R Q
/-- an expression that makes a new list -/
structure DF (W : Wld) (B : Bs W) (X : Cx) (e : Expr) (t : TDF W) : Prop where
  run : PE X e (liftF (cn X) W B t)
def fLst (t : TDA W) : TDF W := fun ρ s Q => t ρ s fun xs s1 => xs.length ≤ sizeLine ∧ Q xs s1
theorem Go.mutL {s : W.S} {Hs H : Hp} {s1 : W.S} {Hs1 H1 : Hp} {p : Addr} {o : HO} (g : Go W s Hs H s1 Hs1 H1) (hp : H1 p = none) : Go W s Hs H s1 Hs1 (upd H1 p o) := g.trans ((Lay.mut g.sub hp).go g.rel)
theorem df_lst {es : List Expr} {t : TDA W} (h : DA W B X es t) : DF W B X (.List es pos) (fLst t) := ⟨pe_imp (pe_lst h.run) fun σ H Q ⟨Hs, ρ, s, R, S, h1, k⟩ => by
  refine ⟨Hs, ρ, s, _, S, h1, fun xs s1 Hs1 H1 vs hR g rs => ?_⟩
  obtain ⟨hz, hq⟩ := hR
  refine ⟨by rw [rs.length]; exact hz, fun p hp => ?_⟩
  exact k xs s1 Hs1 _ p vs hq (g.mutL hp) upd_same rs (g.sub.free hp) (fun z => W.there g.rel z hp) (free_of g.th hp) hz⟩
def dSetF (i : Nat) (t : TDF W) : TDS W := fun E ρ s => t ρ s fun xs s1 => E.nx (ρ.set i (.own (.lst xs))) s1
theorem ds_setF {i : Nat} {x : Str} {pos' : Pos} {t : TDF W} (hN : X.N.Nodup) (hi : X.N[i]? = some x) (hx : Loc X.env.scope x) (he : DF W B X e t) (hs : swapsWith e (some (.Name x pos')) pos.line X.env = pure false := by rfl) (hf : X.fn x = true ∨ X.env.scope.names.lookup x = some .local := by first | exact .inl rfl | exact .inr rfl | assumption) :
    DS W B X (.Assign [.Name x pos'] e pos) (dSetF i t) := ⟨ps_imp (ps_set hN hi hx he.run hs hf) fun D σ H ⟨Hs, ρ, s, E, S, h1, k⟩ => by
  refine ⟨Hs, ρ, s, _, S, h1, fun xs s1 Hs1 H1 p vs hR g hp ra h0 hw hn hz => ?_⟩
  have S1 := S.step g
  exact k.nx _ s1 Hs1 _ H1 hR g.fz (S1.setOwn hp (.lst hz ra) h0 hw (free_of S.go.th hn) fun j b' _ ej => S.fresh hn j b' ej)⟩
/-- list(x), a new list -/
def fItems (t : TDA W) : TDF W := fun ρ s Q => t ρ s fun ds s1 => ∃ d xs, ds = [d] ∧ (d = .tup xs ∨ d = .lst xs) ∧ Q xs s1
theorem df_list {x : Str} {p' : Pos} {t : TDA W} (hg : Gl X x) (hm : X.mg x = none) (hv : bootBuiltins x = some (.type "list")) (ha : DA W B X [e] t) (hn : x ≠ "__name__" := by decide) (hdb : (x == ("__debug__" : Str)) = false := by decide)
    (he : starEach [e] X.env = (false, eval e X.env) :: starEach [] X.env := by rfl) (hpl : (backTo pos (starEach [] X.env)).any (·.1) = false := by rfl) : DF W B X (.Call (.Name x p') [e] [] pos) (fItems t) := ⟨pe_imp (pe_callTy call_list_of hg hm hv ha.run hn hdb he hpl) fun σ H Q ⟨Hs, ρ, s, R, S, h1, k⟩ => by
  refine ⟨Hs, ρ, s, _, S, h1, fun ds s1 Hs1 H1 vs hR g rs => ?_⟩
  obtain ⟨d, xs, rfl, hd, hq⟩ := hR
  cases rs with
  | cons r rs =>
    cases rs
    rcases hd with rfl | rfl
    · cases r with
      | @tup a vs _ z hs ra =>
        exact ⟨a, vs, rfl, .inr (SqT_same g.sub hs), fun p hp => k xs s1 Hs1 _ p vs hq (g.mutL hp) upd_same ra (g.sub.free hp) (fun z => W.there g.rel z hp) (free_of g.th hp) z⟩
    · cases r with
      | @lst a vs _ z hs ra =>
        exact ⟨a, vs, rfl, .inl (g.sub.seq hs), fun p hp => k xs s1 Hs1 _ p vs hq (g.mutL hp) upd_same ra (g.sub.free hp) (fun z => W.there g.rel z hp) (free_of g.th hp) z⟩⟩

/-! ### expressions that change a thing of one's own -/
abbrev TDM (W : Wld) := Env → W.S → (D → Env → W.S → Prop) → Prop
def liftM (c : Cn) (W : Wld) (B : Bs W) (t : TDM W) : TE := fun σ H Q => ∃ Hs ρ s R, Stt c W B σ H ρ s Hs ∧ t ρ s R ∧ ∀ d ρ' s' Hs' H' v, R d ρ' s' → Same Hs Hs' → Stt c W B σ H' ρ' s' Hs' → Rp c Hs' v d → Q v H'
structure DM (W : Wld) (B : Bs W) (X : Cx) (e : Expr) (t : TDM W) : Prop where
  run : PE X e (liftM (cn X) W B t)
def dDropM (t : TDM W) : TDS W := fun E ρ s => t ρ s fun _ ρ' s' => E.nx ρ' s'
theorem ds_exprM {t : TDM W} (he : DM W B X e t) (hs : swapsWith e none pos.line X.env = pure false := by rfl) : DS W B X (.Expr e pos) (dDropM t) := ⟨ps_imp (ps_expr he.run hs) fun D σ H ⟨Hs, ρ, s, E, S, h1, k⟩ =>
  ⟨Hs, ρ, s, _, S, h1, fun d ρ' s1 Hs1 H1 v hR e S' r => k.nx ρ' s1 Hs1 σ H1 hR e S'⟩⟩
def dSetM (i : Nat) (t : TDM W) : TDS W := fun E ρ s => t ρ s fun d ρ' s' => E.nx (ρ'.set i (.d d)) s'
theorem ds_setM {i : Nat} {x : Str} {pos' : Pos} {t : TDM W} (hN : X.N.Nodup) (hi : X.N[i]? = some x) (hx : Loc X.env.scope x) (he : DM W B X e t) (hs : swapsWith e (some (.Name x pos')) pos.line X.env = pure false := by rfl) (hf : X.fn x = true ∨ X.env.scope.names.lookup x = some .local := by first | exact .inl rfl | exact .inr rfl | assumption) :
    DS W B X (.Assign [.Name x pos'] e pos) (dSetM i t) := ⟨ps_imp (ps_set hN hi hx he.run hs hf) fun D σ H ⟨Hs, ρ, s, E, S, h1, k⟩ =>
  ⟨Hs, ρ, s, _, S, h1, fun d ρ' s1 Hs1 H1 v hR e S' r => k.nx _ s1 Hs1 _ H1 hR e (S'.set r)⟩⟩
/-- a method of a list of one's own -/
def OwnM (X : Cx) (id : String) (p : List D → List D → (D → List D → Prop) → Prop) : Prop := ∃ r, MtR X id r ∧ ∀ Hs H q vs xs as ds R Q, H q = some (.lst vs) → RpA (cn X) Hs vs xs → RpA (cn X) Hs as ds → Same Hs H → Hs q = none → p xs ds R →
  (∀ d xs' vs' v, R d xs' → RpA (cn X) Hs vs' xs' → Rp (cn X) Hs v d → xs'.length ≤ sizeLine → Q v (upd H q (.lst vs'))) → r (.ref q) as H Q
def mBm (i : Nat) (p : List D → List D → (D → List D → Prop) → Prop) (t : TDA W) : TDM W := fun ρ s Q => ∃ xs, ρ[i]? = some (.own (.lst xs)) ∧ t ρ s fun ds s1 => p xs ds fun d xs' => Q d (ρ.set i (.own (.lst xs'))) s1
section
variable {x name : Str} {p1 apos cpos : Pos} {id : String} {es : List Expr} {i : Nat} {t : TDA W} {p : List D → List D → (D → List D → Prop) → Prop}
theorem dm_bm (slot : PySem.Slot "list" name id) (hty : typeOf (.builtin id) = pure (.type "method_descriptor")) (hm : OwnM X id p) (ho : PE X (.Name x p1) (tVar i)) (ha : DA W B X (e :: es) t)
    (hbase : attributeBase (.Name x p1) name X.env (eval (.Name x p1) X.env) = eval (.Name x p1) X.env := by rfl)
    (hfew : ((backTo cpos (starEach (e :: es) X.env)).all (fun x => !x.1) && (backToKw cpos (keywordEach [] X.env)).all (fun x => x.1.isSome)
      && decide ((e :: es).length + ([] : List Keyword).length + (if ([] : List Keyword).isEmpty then 0 else 1) < 30)) = true := by rfl)
    (hline : (apos.endLine == cpos.line) = true := by rfl) (hs : starEach (e :: es) X.env = (false, eval e X.env) :: starEach es X.env := by rfl) (hplain : (backTo cpos (starEach es X.env)).any (·.1) = false := by rfl) :
    DM W B X (.Call (.Attribute (.Name x p1) name apos) (e :: es) [] cpos) (mBm i p t) := by
  obtain ⟨r, hr, l⟩ := hm
  refine ⟨pe_imp (pe_bm PySem.F.plainAttrs_list slot hty hr ho ha.run hbase hfew hline hs hplain) fun σ H Q h => ?_⟩
  obtain ⟨Hs, ρ, s, R, S, ⟨xs, e1, h1⟩, k⟩ := h
  obtain ⟨q, o, a1, a2, a3, a4, a5, a6⟩ := S.ow i _ e1
  cases a3 with
  | lst z ra =>
    refine ⟨_, a1, .inl ⟨rfl, _, SqL.of a2⟩, Hs, ρ, s, _, S, h1, fun ds s1 Hs1 H1 as hR g rs => ?_⟩
    have S1 := S.step g
    obtain ⟨q', o', b1, b2, b3, b4, b5, b6⟩ := S1.ow i _ e1
    rw [a1] at b1
    cases b1
    cases b3 with
    | lst z' rb =>
      refine l Hs1 H1 q _ xs as ds _ _ b2 rb rs S1.sub b4 hR fun d xs' vs' v hd rx rv hz => ?_
      exact k d _ s1 Hs1 _ v hd g.fz (S1.mut e1 a1 (.lst hz rx)) rv
theorem dm_bm0 (slot : PySem.Slot "list" name id) (hty : typeOf (.builtin id) = pure (.type "method_descriptor")) (hm : OwnM X id p) (ho : PE X (.Name x p1) (tVar i))
    (hbase : attributeBase (.Name x p1) name X.env (eval (.Name x p1) X.env) = eval (.Name x p1) X.env := by rfl) (hline : (apos.endLine == cpos.line) = true := by rfl) :
    DM W B X (.Call (.Attribute (.Name x p1) name apos) [] [] cpos) (mBm i p dNil) := by
  obtain ⟨r, hr, l⟩ := hm
  refine ⟨pe_imp (pe_bm0 PySem.F.plainAttrs_list slot hty hr ho hbase hline) fun σ H Q h => ?_⟩
  obtain ⟨Hs, ρ, s, R, S, ⟨xs, e1, h1⟩, k⟩ := h
  obtain ⟨q, o, a1, a2, a3, a4, a5, a6⟩ := S.ow i _ e1
  cases a3 with
  | lst z ra =>
    refine ⟨_, a1, .inl ⟨rfl, _, SqL.of a2⟩, l Hs H q _ xs [] [] _ _ a2 ra .nil S.sub a4 h1 fun d xs' vs' v hd rx rv hz => ?_⟩
    exact k d _ s Hs _ v hd (Same.refl _) (S.mut e1 a1 (.lst hz rx)) rv
end
/-- x.append(e) -/
theorem ow_append : OwnM X "list.append" (fun xs ds R => ∃ d, ds = [d] ∧ xs.length < sizeLine ∧ R .non (xs ++ [d])) := by
  refine ⟨_, mt_append, fun Hs H q vs xs as ds R Q hq ra rs _ _ h k => ?_⟩
  obtain ⟨d, rfl, hz, hR⟩ := h
  cases rs with
  | cons r rs =>
    cases rs
    exact ⟨q, vs, _, rfl, rfl, hq, by rw [ra.length]; exact hz, k .non _ _ .non hR (ra.append (.one r)) .non (by simp; omega)⟩
end

/-! ### a def -/
section
open PySem.Spec PyProof.Rows
variable {P : Program} {w : World} {K : PySem.W.Frag} {mg : Str → Option Value} {base : Heap}
/-- THE RULE: a def keeps a promise over data, by its body -/
theorem okD {W : Wld} {x qual : Str} {st : Stmt} {f : Addr} {fd : FuncData} {N ps : List Str} {k n : Nat} {ok : OkD W} (F : Fun K x qual st f fd) (S : FnScope N ps (defScope st)) (hn : ps.length = n)
    (hbody : ∀ (cdv : Value) (A : Around) (outer : List PySem.Env) (s : Shared) (H : Hp) (E : XK) (B : Bs W), Room k (A.deeper (envOfC qual (defScope st) s.heap.objs.size f cdv)) →
      ∃ t, DSs W B (cxOf CX0 P w K mg base N qual (defScope st) f cdv A outer s H E).nox (defBody st) t ∧
        ∀ ds s R, ds.length = n → ok ds s R → t { nx := fun _ s' => R .non s', rt := R } (ds.map .d ++ List.replicate (N.length - n) .un) s) : FnOk P w K mg base CX0 (k + 1) f fd ps (spD ⟨P, w, K⟩ W n ok) := by
  refine F.ok S (fun vs H Q E h => ?_) (fun cdv A outer s H vs Q E hr h => ?_)
  · obtain ⟨Hs, s, ds, R, _, _, ra, hl, _⟩ := h
    rw [ra.length, hl, hn]
  · obtain ⟨Hs, s0, ds, R, hrel, hsub, ra, hl, ho, k⟩ := h
    obtain ⟨t, ht, hq⟩ := hbody cdv A outer s H E ⟨s0, Hs, H⟩ hr
    refine ⟨_, ht.run, Hs, _, s0, _, ?_, hq ds s0 R hl ho, ⟨fun ρ s' Hs' σ' H' a _ S' => k .non s' Hs' H' .non a S'.go .non, fun d s' Hs' H' v a g r => k d s' Hs' H' v a g r, fun _ _ _ _ _ a => a.elim, fun _ _ _ _ _ a => a.elim⟩⟩
    have q := Stt.start (c := ⟨P, w, K⟩) (W := W) (m := N.length - n) hsub hrel ra
    have e : L2.start N vs = vs.map some ++ List.replicate (N.length - n) none := by
      unfold L2.start
      rw [ra.length, hl]
    rw [e]
    exact q
end
end Dv

set_option Elab.async false
set_option linter.all false
set_option maxRecDepth 100000
/-! Operations on data. -/
namespace Dv
open PySem L2

/-! ### data as the library's data -/
mutual
def D.py : D → PyData
  | .non => .none
  | .bl b => .bool b
  | .int i => .int i
  | .str x => .str x
  | .tup xs => .tuple (pys xs)
  | .lst xs => .list (pys xs)
  | .dic _ => .dict []
  | .raw _ => .none
def pys : List D → List PyData
  | [] => []
  | x :: xs => x.py :: pys xs
end
theorem pys_map : ∀ xs : List D, pys xs = xs.map D.py
  | [] => by simp [pys]
  | x :: xs => by simp [pys, pys_map xs]
/-- of at most n layers, of texts that are texts, no dict, no thing -/
def shp : Nat → D → Bool
  | _, .non => true
  | _, .bl _ => true
  | _, .int _ => true
  | _, .str x => PyData.strOk x
  | 0, .tup _ => false
  | n + 1, .tup xs => xs.all (shp n)
  | 0, .lst _ => false
  | n + 1, .lst xs => xs.all (shp n)
  | _, .dic _ => false
  | _, .raw _ => false
theorem canLayAll_iff : ∀ xs : List PyData, PyData.canLayAll0 xs = xs.all PyData.canLay0
  | [] => by simp [PyData.canLayAll0]
  | x :: xs => by simp [PyData.canLayAll0, canLayAll_iff xs]
theorem depthAll_le {n : Nat} : ∀ {xs : List PyData}, (∀ x ∈ xs, x.depth ≤ n) → PyData.depthAll xs ≤ n
  | [], _ => by simp [PyData.depthAll]
  | x :: xs, h => by
    rw [PyData.depthAll]
    have h1 := h x (by simp)
    have h2 := depthAll_le (n := n) (xs := xs) fun y hy => h y (by simp [hy])
    omega
theorem shp_lay : ∀ {n : Nat} {d : D}, shp n d = true → d.py.canLay0 = true
  | n, .non, _ => by simp [D.py, PyData.canLay0]
  | n, .bl _, _ => by simp [D.py, PyData.canLay0]
  | n, .int _, _ => by simp [D.py, PyData.canLay0]
  | n, .str x, h => by simpa [D.py, PyData.canLay0, shp] using h
  | 0, .tup _, h => by simp [shp] at h
  | 0, .lst _, h => by simp [shp] at h
  | n + 1, .tup xs, h => by
    rw [shp, List.all_eq_true] at h
    rw [D.py, PyData.canLay0, canLayAll_iff, pys_map, List.all_eq_true]
    intro y hy
    obtain ⟨x, hx, rfl⟩ := List.mem_map.mp hy
    exact shp_lay (h x hx)
  | n + 1, .lst xs, h => by
    rw [shp, List.all_eq_true] at h
    rw [D.py, PyData.canLay0, canLayAll_iff, pys_map, List.all_eq_true]
    intro y hy
    obtain ⟨x, hx, rfl⟩ := List.mem_map.mp hy
    exact shp_lay (h x hx)
  | n, .dic _, h => by simp [shp] at h
  | n, .raw _, h => by simp [shp] at h
theorem shp_depth : ∀ {n : Nat} {d : D}, shp n d = true → d.py.depth ≤ n
  | n, .non, _ => by simp [D.py, PyData.depth]
  | n, .bl _, _ => by simp [D.py, PyData.depth]
  | n, .int _, _ => by simp [D.py, PyData.depth]
  | n, .str x, h => by simp [D.py, PyData.depth]
  | 0, .tup _, h => by simp [shp] at h
  | 0, .lst _, h => by simp [shp] at h
  | n + 1, .tup xs, h => by
    rw [shp, List.all_eq_true] at h
    rw [D.py, PyData.depth, pys_map]
    have := depthAll_le (n := n) (xs := xs.map D.py) fun y hy => by
      obtain ⟨x, hx, rfl⟩ := List.mem_map.mp hy
      exact shp_depth (h x hx)
    omega
  | n + 1, .lst xs, h => by
    rw [shp, List.all_eq_true] at h
    rw [D.py, PyData.depth, pys_map]
    have := depthAll_le (n := n) (xs := xs.map D.py) fun y hy => by
      obtain ⟨x, hx, rfl⟩ := List.mem_map.mp hy
      exact shp_depth (h x hx)
    omega
  | n, .dic _, h => by simp [shp] at h
  | n, .raw _, h => by simp [shp] at h
theorem shp_shaped {n : Nat} {d : D} (h : shp n d = true) (hn : n ≤ 64) : SeqAt.shaped d.py = true := by
  unfold SeqAt.shaped
  rw [shp_lay h, Bool.true_and]
  exact decide_eq_true (Nat.le_trans (shp_depth h) hn)
theorem shp_mono : ∀ {n m : Nat} {d : D}, n ≤ m → shp n d = true → shp m d = true
  | n, m, .non, _, _ => by simp [shp]
  | n, m, .bl _, _, _ => by simp [shp]
  | n, m, .int _, _, _ => by simp [shp]
  | n, m, .str x, _, h => by simpa [shp] using h
  | 0, m, .tup _, _, h => by simp [shp] at h
  | 0, m, .lst _, _, h => by simp [shp] at h
  | n + 1, 0, .tup xs, hm, _ => by omega
  | n + 1, 0, .lst xs, hm, _ => by omega
  | n + 1, m + 1, .tup xs, hm, h => by
    rw [shp, List.all_eq_true] at h ⊢
    exact fun x hx => shp_mono (by omega) (h x hx)
  | n + 1, m + 1, .lst xs, hm, h => by
    rw [shp, List.all_eq_true] at h ⊢
    exact fun x hx => shp_mono (by omega) (h x hx)
  | n, m, .dic _, _, h => by simp [shp] at h
  | n, m, .raw _, _, h => by simp [shp] at h
mutual
theorem Rp.dp {c : Cn} {H : Hp} : ∀ {n : Nat} {v : V} {d : D}, shp n d = true → Rp c H v d → Dp c.K H v d.py
  | _, _, _, _, .non => by rw [D.py]; exact .non
  | _, _, _, _, .bl b => by rw [D.py]; exact .bl b
  | _, _, _, _, .int i => by rw [D.py]; exact .int i
  | _, _, _, _, .str z => by rw [D.py]; exact .str _
  | 0, _, _, h, .tup _ _ _ => by simp [shp] at h
  | 0, _, _, h, .lst _ _ _ => by simp [shp] at h
  | n + 1, _, _, h, .tup z s r => by
    rw [shp, List.all_eq_true] at h
    rw [D.py]
    exact .tup s (RpA.dp h r)
  | n + 1, _, _, h, .lst z s r => by
    rw [shp, List.all_eq_true] at h
    rw [D.py]
    exact .lst s (RpA.dp h r)
  | n, _, _, h, .dic _ _ _ _ => by simp [shp] at h
  | n, _, _, h, .raw _ => by simp [shp] at h
theorem RpA.dp {c : Cn} {H : Hp} : ∀ {n : Nat} {vs : List V} {ds : List D}, (∀ d ∈ ds, shp n d = true) → RpA c H vs ds → DpAll c.K H vs (pys ds)
  | _, _, _, _, .nil => by rw [pys]; exact .nil
  | n, _, _, h, .cons r t => by
    rw [pys]
    exact .cons (Rp.dp (h _ (by simp)) r) (RpA.dp (fun d hd => h d (by simp [hd])) t)
end
/-- Python's == -/
def eqD (d e : D) : Bool := PyData.eqv d.py e.py
/-- Python's <, of things alike -/
def ltD (d e : D) : Bool := PySem.W.dataLt d.py e.py
def alikeD (d e : D) : Bool := PySem.W.alike d.py e.py

section
variable {X : Cx}
/-! ### comparisons -/
theorem od_eq (hu : X.A.units + 64 < cLine) (n : Nat) (hn : n ≤ 64 := by decide) : OpD X (compareOp .Eq) (fun d e R => shp n d = true ∧ shp n e = true ∧ R (.bl (eqD d e))) :=
  ⟨_, op_eqD hu, fun Hs H x y d e R Q hs rx ry ⟨h1, h2, h3⟩ k => ⟨d.py, e.py, (rx.same hs).dp h1, (ry.same hs).dp h2, shp_shaped h1 hn, shp_shaped h2 hn, k _ Hs H _ h3 (Lay.refl hs) (.bl _)⟩⟩
theorem od_ne (hu : X.A.units + 64 < cLine) (n : Nat) (hn : n ≤ 64 := by decide) : OpD X (compareOp .NotEq) (fun d e R => shp n d = true ∧ shp n e = true ∧ R (.bl (!eqD d e))) :=
  ⟨_, op_neD hu, fun Hs H x y d e R Q hs rx ry ⟨h1, h2, h3⟩ k => ⟨d.py, e.py, (rx.same hs).dp h1, (ry.same hs).dp h2, shp_shaped h1 hn, shp_shaped h2 hn, k _ Hs H _ h3 (Lay.refl hs) (.bl _)⟩⟩
def rInT (K : PySem.W.Frag) (neg : Bool) : R2 := fun x y H Q => ∃ d ds, Dp K H x d ∧ (Dp K H y (.tuple ds) ∨ Dp K H y (.list ds)) ∧ SeqAt.shaped d = true ∧ SeqAt.shaped (.list ds) = true ∧ Q (.bl (if neg then !ds.any fun z => PyData.eqv z d else ds.any fun z => PyData.eqv z d)) H
theorem op_inTL (hu : X.A.units + 65 < cLine) : OpR X (compareOp .In) (rInT X.K false) := by
  intro pins s σ H x y v u Q I rx ry h
  obtain ⟨d, ds, hd, he, sd, se, q⟩ := h
  obtain ⟨as, r1⟩ := Dp.reads I d x v hd rx
  rcases he with he | he
  · obtain ⟨bs, r2⟩ := Dp.reads I (.tuple ds) y u he ry
    exact SeqAt.in_tuple_reads r2 r1 (SeqAt.canLay_of_shaped se) (SeqAt.canLay_of_shaped sd) (PyProof.Rows.room_in_shaped sd hu) ⟨.bl _, H, I, rfl, q⟩
  · obtain ⟨bs, r2⟩ := Dp.reads I (.list ds) y u he ry
    exact SeqAt.in_list_reads r2 r1 (SeqAt.canLay_of_shaped se) (SeqAt.canLay_of_shaped sd) (PyProof.Rows.room_in_shaped sd hu) ⟨.bl _, H, I, rfl, q⟩
theorem op_ninTL (hu : X.A.units + 65 < cLine) : OpR X (compareOp .NotIn) (rInT X.K true) := by
  intro pins s σ H x y v u Q I rx ry h
  obtain ⟨d, ds, hd, he, sd, se, q⟩ := h
  obtain ⟨as, r1⟩ := Dp.reads I d x v hd rx
  rcases he with he | he
  · obtain ⟨bs, r2⟩ := Dp.reads I (.tuple ds) y u he ry
    exact SeqAt.notIn_tuple_reads r2 r1 (SeqAt.canLay_of_shaped se) (SeqAt.canLay_of_shaped sd) (PyProof.Rows.room_in_shaped sd hu) ⟨.bl _, H, I, rfl, q⟩
  · obtain ⟨bs, r2⟩ := Dp.reads I (.list ds) y u he ry
    exact SeqAt.notIn_list_reads r2 r1 (SeqAt.canLay_of_shaped se) (SeqAt.canLay_of_shaped sd) (PyProof.Rows.room_in_shaped sd hu) ⟨.bl _, H, I, rfl, q⟩
/-- d is among the items -/
def inD (d : D) (xs : List D) : Bool := xs.any fun z => eqD z d
theorem any_py (d : D) (xs : List D) : ((pys xs).any fun z => PyData.eqv z d.py) = inD d xs := by
  rw [pys_map, List.any_map]
  rfl
theorem lk_in (n : Nat) (hn : n < 64) (neg : Bool) : Lk2 X (rInT X.K neg) (fun d e R => ∃ xs, (e = .tup xs ∨ e = .lst xs) ∧ shp n d = true ∧ (∀ x ∈ xs, shp n x = true) ∧ R (.bl (if neg then !inD d xs else inD d xs))) :=
  fun Hs H x y d e R Q hs rx ry ⟨xs, he, h1, h2, h3⟩ k => by
    have sl : shp (n + 1) (.lst xs) = true := by rw [shp, List.all_eq_true]; exact h2
    have st : shp (n + 1) (.tup xs) = true := by rw [shp, List.all_eq_true]; exact h2
    have e1 : SeqAt.shaped (.list (pys xs)) = true := by
      have := shp_shaped sl (by omega)
      rwa [D.py] at this
    refine ⟨d.py, pys xs, (rx.same hs).dp h1, ?_, shp_shaped h1 (by omega), e1, ?_⟩
    · rcases he with rfl | rfl
      · have := (ry.same hs).dp st
        rw [D.py] at this
        exact .inl this
      · have := (ry.same hs).dp sl
        rw [D.py] at this
        exact .inr this
    · have := k _ Hs H _ h3 (Lay.refl hs) (.bl _)
      rw [any_py]
      exact this
theorem od_in (hu : X.A.units + 65 < cLine) (n : Nat) (hn : n < 64 := by decide) : OpD X (compareOp .In) (fun d e R => ∃ xs, (e = .tup xs ∨ e = .lst xs) ∧ shp n d = true ∧ (∀ x ∈ xs, shp n x = true) ∧ R (.bl (inD d xs))) :=
  ⟨_, op_inTL hu, lk_in n hn false⟩
theorem od_nin (hu : X.A.units + 65 < cLine) (n : Nat) (hn : n < 64 := by decide) : OpD X (compareOp .NotIn) (fun d e R => ∃ xs, (e = .tup xs ∨ e = .lst xs) ∧ shp n d = true ∧ (∀ x ∈ xs, shp n x = true) ∧ R (.bl (!inD d xs))) :=
  ⟨_, op_ninTL hu, lk_in n hn true⟩
/-- is None -/
def isN : D → Bool
  | .non => true
  | .raw v => decide (v = .non)
  | _ => false
theorem isN_of {c : Cn} {H : Hp} {v : V} {d : D} (r : Rp c H v d) : decide (v = .non) = isN d := by
  cases r <;> first | rfl | exact decide_eq_false (fun z => nomatch z)
theorem od_isN : OpD X (compareOp .Is) (fun d e R => e = .non ∧ R (.bl (isN d))) :=
  ⟨_, op_isN, fun Hs H x y d e R Q hs rx ry ⟨h1, h2⟩ k => by
    subst h1
    cases ry
    exact ⟨rfl, by rw [isN_of rx]; exact k _ Hs H _ h2 (Lay.refl hs) (.bl _)⟩⟩
theorem od_notN : OpD X (compareOp .IsNot) (fun d e R => e = .non ∧ R (.bl (!isN d))) :=
  ⟨_, op_notN, fun Hs H x y d e R Q hs rx ry ⟨h1, h2⟩ k => by
    subst h1
    cases ry
    exact ⟨rfl, by rw [isN_of rx]; exact k _ Hs H _ h2 (Lay.refl hs) (.bl _)⟩⟩
/-- x is True, x is False; x None or a truth -/
def isB : D → Bool → Option Bool
  | .non, _ => some false
  | .bl a, b => some (a == b)
  | _, _ => none
theorem op_isNB : OpR X (compareOp .Is) (fun x y H Q => ∃ b k, y = .bl b ∧ ((x = .non ∧ k = false) ∨ ∃ a, x = .bl a ∧ k = (a == b)) ∧ Q (.bl k) H) := by
  intro pins s σ H x y v u Q I rx ry h
  obtain ⟨b, k, rfl, h, q⟩ := h
  cases (show u = Value.bool b from ry)
  rcases h with ⟨rfl, rfl⟩ | ⟨a, rfl, rfl⟩
  · cases (show v = Value.none from rx)
    exact wpAny_is_other rfl (fun z => nomatch z) ⟨.bl false, H, I, rfl, q⟩
  · cases (show v = Value.bool a from rx)
    by_cases e : a = b
    · subst e
      exact wpAny_is_self rfl ⟨.bl true, H, I, rfl, by simpa using q⟩
    · exact wpAny_is_other rfl (fun z => e (Value.bool.inj z)) ⟨.bl false, H, I, rfl, by rw [show (a == b) = false from beq_eq_false_iff_ne.mpr e] at q; exact q⟩
theorem od_isB : OpD X (compareOp .Is) (fun d e R => ∃ b k, e = .bl b ∧ isB d b = some k ∧ R (.bl k)) :=
  ⟨_, op_isNB, fun Hs H x y d e R Q hs rx ry ⟨b, k, h1, h2, h3⟩ kk => by
    subst h1
    have e := ry.blE
    have q := kk _ Hs H _ h3 (Lay.refl hs) (.bl _)
    cases d with
    | non =>
      cases rx
      exact ⟨b, k, e, .inl ⟨rfl, (Option.some.inj h2).symm⟩, q⟩
    | bl a =>
      cases rx
      exact ⟨b, k, e, .inr ⟨a, rfl, (Option.some.inj h2).symm⟩, q⟩
    | _ => cases h2⟩

/-! ### order -/
def rCmpD (K : PySem.W.Frag) (f : PyData → PyData → Bool) : R2 := fun x y H Q => ∃ d e, Dp K H x d ∧ Dp K H y e ∧ PySem.W.alike d e = true ∧ d ≠ .none ∧ d.depth ≤ 60 ∧ Q (.bl (f d e)) H
theorem op_ltD (hu : X.A.units + 64 < cLine) : OpR X (compareOp .Lt) (rCmpD X.K PySem.W.dataLt) := by
  intro pins s σ H x y v u Q I rx ry h
  obtain ⟨d, e, hd, he, al, hn, hz, q⟩ := h
  obtain ⟨as, r1⟩ := Dp.reads I d x v hd rx
  obtain ⟨bs, r2⟩ := Dp.reads I e y u he ry
  exact PySem.W.lt_data r1 r2 al hn (by have := Nat.min_le_left d.depth e.depth; omega) ⟨.bl _, H, I, rfl, q⟩
theorem op_gtD (hu : X.A.units + 64 < cLine) : OpR X (compareOp .Gt) (rCmpD X.K fun d e => PySem.W.dataLt e d) := by
  intro pins s σ H x y v u Q I rx ry h
  obtain ⟨d, e, hd, he, al, hn, hz, q⟩ := h
  obtain ⟨as, r1⟩ := Dp.reads I d x v hd rx
  obtain ⟨bs, r2⟩ := Dp.reads I e y u he ry
  exact PySem.W.gt_data r1 r2 al hn (by have := Nat.min_le_left d.depth e.depth; omega) ⟨.bl _, H, I, rfl, q⟩
theorem op_leD (hu : X.A.units + 64 < cLine) : OpR X (compareOp .LtE) (rCmpD X.K fun d e => !PySem.W.dataLt e d) := by
  intro pins s σ H x y v u Q I rx ry h
  obtain ⟨d, e, hd, he, al, hn, hz, q⟩ := h
  obtain ⟨as, r1⟩ := Dp.reads I d x v hd rx
  obtain ⟨bs, r2⟩ := Dp.reads I e y u he ry
  exact PySem.W.le_data r1 r2 al hn (by have := Nat.min_le_left d.depth e.depth; omega) ⟨.bl _, H, I, rfl, q⟩
theorem op_geD (hu : X.A.units + 64 < cLine) : OpR X (compareOp .GtE) (rCmpD X.K fun d e => !PySem.W.dataLt d e) := by
  intro pins s σ H x y v u Q I rx ry h
  obtain ⟨d, e, hd, he, al, hn, hz, q⟩ := h
  obtain ⟨as, r1⟩ := Dp.reads I d x v hd rx
  obtain ⟨bs, r2⟩ := Dp.reads I e y u he ry
  exact PySem.W.ge_data r1 r2 al hn (by have := Nat.min_le_left d.depth e.depth; omega) ⟨.bl _, H, I, rfl, q⟩
/-- the four orders: of ints, of texts, of data alike -/
def cmpP (fi : Int → Int → Bool) (fd : D → D → Bool) : P2 := fun d e R => match d, e with
  | .int i, .int j => R (.bl (fi i j))
  | d, e => ∃ n, n ≤ 60 ∧ shp n d = true ∧ shp n e = true ∧ alikeD d e = true ∧ d ≠ .non ∧ R (.bl (fd d e))
theorem py_ne_none {n : Nat} {d : D} (h : shp n d = true) (hn : d ≠ .non) : d.py ≠ .none := by
  cases d with
  | non => exact absurd rfl hn
  | raw v => simp [shp] at h
  | _ => rw [D.py]; exact fun z => nomatch z
theorem lk_cmp {fi : Int → Int → Bool} {fd : PyData → PyData → Bool} : Lk2 X (fun x y H Q => (rI0 fun i j => .bl (fi i j)) x y H Q ∨ rCmpD X.K fd x y H Q) (cmpP fi fun d e => fd d.py e.py) := by
  intro Hs H x y d e R Q hs rx ry h k
  have go : (∃ n, n ≤ 60 ∧ shp n d = true ∧ shp n e = true ∧ alikeD d e = true ∧ d ≠ .non ∧ R (.bl (fd d.py e.py))) → rCmpD X.K fd x y H Q := fun ⟨n, h0, h1, h2, h3, h4, h5⟩ =>
    ⟨d.py, e.py, (rx.same hs).dp h1, (ry.same hs).dp h2, h3, py_ne_none h1 h4, Nat.le_trans (shp_depth h1) h0, k _ Hs H _ h5 (Lay.refl hs) (.bl _)⟩
  unfold cmpP at h
  split at h
  · cases rx
    cases ry
    exact .inl ⟨_, _, rfl, rfl, k _ Hs H _ h (Lay.refl hs) (.bl _)⟩
  · exact .inr (go h)
theorem od_lt (hu : X.A.units + 64 < cLine) : OpD X (compareOp .Lt) (cmpP (fun i j => decide (i < j)) ltD) := ⟨_, op_lt.or (op_ltD hu), lk_cmp⟩
theorem od_gt (hu : X.A.units + 64 < cLine) : OpD X (compareOp .Gt) (cmpP (fun i j => decide (j < i)) fun d e => ltD e d) := ⟨_, op_gt.or (op_gtD hu), lk_cmp⟩
theorem od_le (hu : X.A.units + 64 < cLine) : OpD X (compareOp .LtE) (cmpP (fun i j => decide (i ≤ j)) fun d e => !ltD e d) := ⟨_, op_le.or (op_leD hu), lk_cmp⟩
theorem od_ge (hu : X.A.units + 64 < cLine) : OpD X (compareOp .GtE) (cmpP (fun i j => decide (j ≤ i)) fun d e => !ltD d e) := ⟨_, op_ge.or (op_geD hu), lk_cmp⟩

/-! ### arithmetic, joining -/
def rCatL (K : PySem.W.Frag) : R2 := fun x y H Q => ∃ l b xs zs, x = .ref l ∧ y = .ref b ∧ SqL K H l xs ∧ SqL K H b zs ∧ xs.length + zs.length ≤ sizeLine ∧ ∀ p, H p = none → Q (.ref p) (upd H p (.lst (xs ++ zs)))
theorem op_catL : OpR X (binaryOp .Add) (rCatL X.K) := by
  intro pins s σ H x y v u Q I rx ry h
  obtain ⟨l, b, xs, zs, rfl, rfl, hH, hB, hz, q⟩ := h
  cases rx
  cases ry
  obtain ⟨its, r, ⟨o, n, e, hc, hd, hdt⟩, z⟩ := I.list hH
  obtain ⟨its2, r2, ⟨o2, n2, e2, hc2, hd2, hdt2⟩, z2⟩ := I.list hB
  have hl := r.length
  have hl2 := r2.length
  obtain ⟨oc, od, dt, sl⟩ := o
  obtain ⟨oc2, od2, dt2, sl2⟩ := o2
  simp only at hc hd hdt hc2 hd2 hdt2
  subst hc hd hdt hc2 hd2 hdt2
  have ea : its.toArray ++ its2.toArray = (its ++ its2).toArray := by simp
  refine concat_meets ⟨_, e, rfl⟩ ⟨_, e2, rfl⟩ noFill_list_add seq_list_add PySem.F.slot_list_add PySem.F.entry_list_add (PySem.F.args_list_add_2 _ _) (PyProof.Rows.list_addW l b its.toArray its2.toArray n n2 none none sl sl2 (by simp only [List.size_toArray]; omega)) ⟨e, e2, ?_⟩
  rw [ea]
  exact ⟨.ref _, _, I.lnew (t' := s.toks) (r.append r2) (by rw [List.length_append]; omega), rfl, q _ I.fresh⟩
def addP : P2 := fun d e R => match d, e with
  | .int i, .int j => R (.int (i + j))
  | .str x, .str y => x.length + y.length ≤ sizeLine ∧ R (.str (x ++ y))
  | .tup xs, .tup ys => xs.length + ys.length ≤ sizeLine ∧ R (.tup (xs ++ ys))
  | .lst xs, .lst ys => xs.length + ys.length ≤ sizeLine ∧ R (.lst (xs ++ ys))
  | _, _ => False
theorem od_add : OpD X (binaryOp .Add) addP := by
  refine ⟨_, op_add.or (op_add_str.or (op_catA.or op_catL)), fun Hs H x y d e R Q hs rx ry h k => ?_⟩
  unfold addP at h
  split at h
  · cases rx
    cases ry
    exact .inl ⟨_, _, rfl, rfl, k _ Hs H _ h (Lay.refl hs) (.int _)⟩
  · cases rx
    cases ry
    refine .inr (.inl ⟨_, _, rfl, rfl, h.1, k _ Hs H _ h.2 (Lay.refl hs) (.str ?_)⟩)
    rw [Str.length_append]
    exact h.1
  · rename_i xs ys
    cases rx with
    | @tup a vs _ z hq ra =>
      cases ry with
      | @tup b ws _ z2 hq2 rb =>
        have l1 := ra.length
        have l2 := rb.length
        refine .inr (.inr (.inl ⟨a, b, vs, ws, rfl, rfl, SqT_same hs hq, SqT_same hs hq2, by omega, fun e => ?_, fun _ e => ?_, fun _ _ p hp => ?_⟩))
        · subst e
          cases ra
          exact k _ Hs H _ h.2 (Lay.refl hs) (.tup z2 hq2 rb)
        · subst e
          cases rb
          refine k _ Hs H _ h.2 (Lay.refl hs) ?_
          rw [List.append_nil]
          exact .tup z hq ra
        · exact k _ _ _ _ h.2 (Lay.one hs hp) (.tupN (hs.free hp) (by rw [List.length_append]; exact h.1) (ra.append rb))
  · rename_i xs ys
    cases rx with
    | @lst a vs _ z hq ra =>
      cases ry with
      | @lst b ws _ z2 hq2 rb =>
        have l1 := ra.length
        have l2 := rb.length
        exact .inr (.inr (.inr ⟨a, b, vs, ws, rfl, rfl, hs.seq hq, hs.seq hq2, by omega, fun p hp => k _ _ _ _ h.2 (Lay.one hs hp) (.lstN (hs.free hp) (by rw [List.length_append]; exact h.1) (ra.append rb))⟩))
  · exact h.elim
def intP (C : Int → Int → Prop) (f : Int → Int → Int) : P2 := fun d e R => ∃ i j, d = .int i ∧ e = .int j ∧ C i j ∧ R (.int (f i j))
theorem lk_int {C : Int → Int → Prop} {f : Int → Int → Int} : Lk2 X (rI C fun i j => .int (f i j)) (intP C f) := fun Hs H x y d e R Q hs rx ry ⟨i, j, h1, h2, h3, h4⟩ k => by
  subst h1 h2
  exact ⟨i, j, rx.intE, ry.intE, h3, k _ Hs H _ h4 (Lay.refl hs) (.int _)⟩
theorem lk_int0 {f : Int → Int → Int} : Lk2 X (rI0 fun i j => .int (f i j)) (intP (fun _ _ => True) f) := fun Hs H x y d e R Q hs rx ry ⟨i, j, h1, h2, _, h4⟩ k => by
  subst h1 h2
  exact ⟨i, j, rx.intE, ry.intE, k _ Hs H _ h4 (Lay.refl hs) (.int _)⟩
theorem od_sub : OpD X (binaryOp .Sub) (intP (fun _ _ => True) fun i j => i - j) := ⟨_, op_sub, lk_int0⟩
theorem od_mul : OpD X (binaryOp .Mult) (intP CMulW fun i j => i * j) := ⟨_, op_mulW, lk_int⟩
theorem od_mod : OpD X (binaryOp .Mod) (intP (fun _ j => 0 < j) fun i j => i % j) := ⟨_, op_mod, lk_int⟩
theorem od_fdiv : OpD X (binaryOp .FloorDiv) (intP CDivW fun i j => i / j) := ⟨_, op_fdivW, lk_int⟩
theorem od_pow : OpD X (binaryOp .Pow) (intP CPow fun i j => i ^ j.toNat) := ⟨_, op_pow, lk_int⟩
theorem ud_neg : UnD X (unaryOp .USub) (fun d R => ∃ i, d = .int i ∧ R (.int (-i))) := ⟨_, un_neg, fun Hs H x d R Q hs rx ⟨i, h1, h2⟩ k => by
  subst h1
  exact ⟨i, rx.intE, k _ Hs H _ h2 (Lay.refl hs) (.int _)⟩⟩
/-- (x, ..) * n -/
theorem od_rep : OpD X (binaryOp .Mult) (fun d e R => ∃ xs n, d = .tup xs ∧ e = .int n ∧ xs ≠ [] ∧ 2 ≤ n ∧ n ≤ 1000 ∧ xs.length ≤ 1000 ∧ R (.tup (List.replicate n.toNat xs).flatten)) := by
  refine ⟨_, op_repT, fun Hs H x y d e R Q hs rx ry ⟨xs, n, h1, h2, h3, h4, h5, h6, h7⟩ k => ?_⟩
  subst h1 h2
  cases rx with
  | @tup a vs _ z hq ra =>
    have l := ra.length
    refine ⟨a, n, vs, rfl, ry.intE, SqT_same hs hq, fun e => h3 ?_, h4, h5, by omega, fun p hp => ?_⟩
    · subst e; cases ra; rfl
    · have rr : ∀ m : Nat, RpA (cn X) Hs (List.replicate m vs).flatten (List.replicate m xs).flatten := fun m => by
        induction m with
        | zero => exact .nil
        | succ m ih =>
          rw [List.replicate_succ, List.replicate_succ, List.flatten_cons, List.flatten_cons]
          exact ra.append ih
      have hl : ∀ m : Nat, (List.replicate m xs).flatten.length = m * xs.length := fun m => by
        induction m with
        | zero => simp
        | succ m ih => rw [List.replicate_succ, List.flatten_cons, List.length_append, ih, Nat.succ_mul, Nat.add_comm]
      refine k _ _ _ _ h7 (Lay.one hs hp) (.tupN (hs.free hp) ?_ (rr _))
      rw [hl]
      have : n.toNat * xs.length ≤ 1000 * 1000 := Nat.mul_le_mul (by omega) h6
      have e : sizeLine = 16777216 := sizeLine_eq
      omega
end
end Dv

set_option Elab.async false
set_option linter.all false
set_option maxRecDepth 100000
/-! Built-ins over data. -/
namespace Dv
open PySem L2

section
variable {X : Cx}
/-! ### isinstance -/
def tyD : D → Option String
  | .non => some "NoneType"
  | .bl _ => some "bool"
  | .int _ => some "int"
  | .str _ => some "str"
  | .tup _ => some "tuple"
  | .lst _ => some "list"
  | .dic _ => some "dict"
  | .raw _ => none
theorem Rp.kit {pins : List (Addr × Obj)} {σ : L2.St} {H : Hp} {s : Shared} {x : V} {u : Value} {d : D} {t : String} (I : Inv X pins σ H s) (r : Rp (cn X) H x d) (ht : tyD d = some t) (rx : RelV x u) :
    ∃ P : Heap → Prop, PySem.W.KitX X.K u (.type t) P ∧ P s.heap ∧ u ≠ .builtin "__main__.__loader__#opaque" := by
  cases r with
  | non => cases ht; cases (show u = Value.none from rx); exact ⟨_, PySem.W.kitx_none, True.intro, fun z => nomatch z⟩
  | bl y => cases ht; cases (show u = Value.bool y from rx); exact ⟨_, PySem.W.kitx_bool, True.intro, fun z => nomatch z⟩
  | int i => cases ht; obtain ⟨t, q⟩ := (show ∃ t, u = Value.int i t from rx); cases q; exact ⟨_, PySem.W.kitx_int, True.intro, fun z => nomatch z⟩
  | str z => cases ht; obtain ⟨t, q⟩ := rx; cases q; exact ⟨_, PySem.W.kitx_str, True.intro, fun z => nomatch z⟩
  | @tup a vs ds z hs ra =>
    cases ht
    cases (show u = Value.ref a from rx)
    obtain ⟨its, rv, ⟨o, h1, h2, _⟩, _⟩ := I.tuple hs
    exact ⟨_, PySem.W.kitx_tuple, ⟨o, h1, h2⟩, fun z => nomatch z⟩
  | @lst a vs ds z hs ra =>
    cases ht
    cases (show u = Value.ref a from rx)
    obtain ⟨its, rv, ⟨o, n, h1, h2, _⟩, _⟩ := I.list hs
    exact ⟨_, PySem.W.kitx_list, ⟨o, h1, h2⟩, fun z => nomatch z⟩
  | @dic a o es kvs hd fx re nd =>
    cases ht
    cases (show u = Value.ref a from rx)
    exact ⟨_, PySem.W.kitx_dict, ⟨o, Inv.dat I hd, fx.ex.1⟩, fun z => nomatch z⟩
  | raw v => cases ht
def rIsX (X : Cx) : List V → Hp → VK → Prop := fun xs H Q => ∃ (x : V) (d : D) (t n : String) (b : Bool), xs = [x, .ty n] ∧ Rp (cn X) H x d ∧ tyD d = some t ∧ kitB t n = some b ∧ Q (.bl b) H
theorem call_isX : CallR X (.builtin "isinstance") (rIsX X) := by
  intro pins s σ H xs us Q I r h
  obtain ⟨x, d, t, n, b, rfl, rd, ht, hb, q⟩ := h
  obtain ⟨u1, u2, rfl, r1, r2⟩ := vals2 r
  cases (show u2 = Value.type n from r2)
  obtain ⟨P, Z, p, hx⟩ := rd.kit I ht r1
  exact PySem.W.kia_one Z I.kIn p (kit_ty hb) hx fun tk => ⟨.bl b, H, I.tok tk, rfl, q⟩
/-- isinstance(d, n) -/
def isiD (d : D) (n : String) : Option Bool := (tyD d).bind fun t => kitB t n
theorem cd_isi : CallD X (.builtin "isinstance") (fun ds R => ∃ d n b, ds = [d, .raw (.ty n)] ∧ isiD d n = some b ∧ R (.bl b)) :=
  ⟨_, call_isX, fun Hs H vs ds R Q hs ra ⟨d, n, b, e, hb, h⟩ k => by
    subst e
    cases ra with
    | cons r ra =>
      cases ra with
      | cons r2 ra =>
        cases ra
        unfold isiD at hb
        cases ht : tyD d with
        | none => rw [ht] at hb; cases hb
        | some t =>
          rw [ht] at hb
          cases r2
          exact ⟨_, d, t, n, b, rfl, r.same hs, ht, hb, k _ Hs H _ h (Lay.refl hs) (.bl _)⟩⟩
def isTy (t n : String) : Bool := t == n || (t == "bool" && n == "int")
theorem kit_all : (["NoneType", "bool", "int", "str", "tuple", "list", "dict"].all fun t => ["bool", "int", "str", "tuple", "list", "dict"].all fun n => kitB t n == some (isTy t n)) = true := by decide +kernel
theorem isi_of {d : D} {t n : String} (ht : tyD d = some t) (h1 : t ∈ ["NoneType", "bool", "int", "str", "tuple", "list", "dict"] := by decide) (h2 : n ∈ ["bool", "int", "str", "tuple", "list", "dict"] := by decide) : isiD d n = some (isTy t n) := by
  unfold isiD
  rw [ht]
  have := kit_all
  rw [List.all_eq_true] at this
  have := this t h1
  rw [List.all_eq_true] at this
  exact beq_iff_eq.mp (this n h2)
/-- isinstance, in plain words -/
def isI : D → String → Bool
  | .non, _ => false
  | .bl _, n => n == "bool" || n == "int"
  | .int _, n => n == "int"
  | .str _, n => n == "str"
  | .tup _, n => n == "tuple"
  | .lst _, n => n == "list"
  | .dic _, n => n == "dict"
  | .raw _, _ => false
theorem isiD_eq {d : D} {n : String} (hd : ∀ v, d ≠ .raw v) (h : n ∈ ["bool", "int", "str", "tuple", "list", "dict"]) : isiD d n = some (isI d n) := by
  have key : ∀ t, tyD d = some t → t ∈ ["NoneType", "bool", "int", "str", "tuple", "list", "dict"] → isTy t n = isI d n → isiD d n = some (isI d n) := fun t a b c => by
    rw [isi_of a b h, c]
  simp only [List.mem_cons, List.mem_nil_iff, or_false] at h
  cases d with
  | raw v => exact absurd rfl (hd v)
  | _ => rcases h with rfl | rfl | rfl | rfl | rfl | rfl <;> exact key _ rfl (by decide) (by rfl)

/-! ### len, abs, max, min, int -/
def lenD : D → Option Nat
  | .tup xs => some xs.length
  | .lst xs => some xs.length
  | .str x => some x.length
  | _ => none
theorem cd_len : CallD X (.builtin "len") (fun ds R => ∃ d n, ds = [d] ∧ lenD d = some n ∧ (n ≤ sizeLine → R (.int n))) :=
  ⟨_, call_len, fun Hs H vs ds R Q hs ra ⟨d, n, e, hn, h⟩ k => by
    subst e
    cases ra with
    | cons r ra =>
      cases ra
      have q : n ≤ sizeLine → _ := fun hz => k _ Hs H _ (h hz) (Lay.refl hs) (.int _)
      cases r with
      | @tup a vs _ z hq rb =>
        cases hn
        exact ⟨_, _, rfl, .inr ⟨vs, SqT_same hs hq, rb.length.symm⟩, q z⟩
      | @lst a vs _ z hq rb =>
        cases hn
        exact ⟨_, _, rfl, .inl ⟨vs, hs.seq hq, rb.length.symm⟩, q z⟩
      | str z =>
        cases hn
        exact ⟨_, _, rfl, ⟨z, rfl⟩, q z⟩
      | _ => cases hn⟩
theorem RpA.ints1 {c : Cn} {H : Hp} {vs : List V} {i : Int} (r : RpA c H vs [.int i]) : vs = [.int i] := by
  cases r with
  | cons a b =>
    cases b
    rw [a.intE]
theorem RpA.ints2 {c : Cn} {H : Hp} {vs : List V} {i j : Int} (r : RpA c H vs [.int i, .int j]) : vs = [.int i, .int j] := by
  cases r with
  | cons a b =>
    cases b with
    | cons b c =>
      cases c
      rw [a.intE, b.intE]
theorem cd_abs : CallD X (.builtin "abs") (fun ds R => ∃ i, ds = [.int i] ∧ R (.int (if i < 0 then -i else i))) :=
  ⟨_, call_abs, fun Hs H vs ds R Q hs ra ⟨i, e, h⟩ k => by
    subst e
    exact ⟨i, ra.ints1, k _ Hs H _ h (Lay.refl hs) (.int _)⟩⟩
theorem cd_max2 (hc : X.calm = true) : CallD X (.builtin "max") (fun ds R => ∃ i j, ds = [.int i, .int j] ∧ R (.int (if j > i then j else i))) :=
  ⟨_, call_max2 hc, fun Hs H vs ds R Q hs ra ⟨i, j, e, h⟩ k => by
    subst e
    exact ⟨i, j, ra.ints2, k _ Hs H _ h (Lay.refl hs) (.int _)⟩⟩
theorem cd_min2 (hc : X.calm = true) : CallD X (.builtin "min") (fun ds R => ∃ i j, ds = [.int i, .int j] ∧ R (.int (if j < i then j else i))) :=
  ⟨_, call_min2 hc, fun Hs H vs ds R Q hs ra ⟨i, j, e, h⟩ k => by
    subst e
    exact ⟨i, j, ra.ints2, k _ Hs H _ h (Lay.refl hs) (.int _)⟩⟩
theorem cd_int : CallD X (.type "int") (fun ds R => (∃ i, ds = [.int i] ∧ R (.int i)) ∨ ∃ b, ds = [.bl b] ∧ R (.int (if b then 1 else 0))) :=
  ⟨_, call_int1, fun Hs H vs ds R Q hs ra h k => by
    rcases h with ⟨i, e, h⟩ | ⟨b, e, h⟩
    · subst e
      exact .inl ⟨i, ra.ints1, k _ Hs H _ h (Lay.refl hs) (.int _)⟩
    · subst e
      cases ra with
      | cons r ra =>
        cases ra
        rw [r.blE]
        exact .inr ⟨b, rfl, k _ Hs H _ h (Lay.refl hs) (.int _)⟩⟩

/-! ### tuple, list -/
theorem cd_tuple : CallD X (.type "tuple") (fun ds R => ∃ d xs, ds = [d] ∧ (d = .tup xs ∨ d = .lst xs) ∧ R (.tup xs)) :=
  ⟨_, call_tuple_of, fun Hs H vs ds R Q hs ra ⟨d, xs, e, hd, h⟩ k => by
    subst e
    cases ra with
    | cons r ra =>
      cases ra
      rcases hd with rfl | rfl
      · cases r with
        | @tup a vs _ z hq rb => exact ⟨a, vs, rfl, .inr ⟨SqT_same hs hq, k _ Hs H _ h (Lay.refl hs) (.tup z hq rb)⟩⟩
      · cases r with
        | @lst a vs _ z hq rb => exact ⟨a, vs, rfl, .inl ⟨hs.seq hq, fun p hp => k _ _ _ _ h (Lay.one hs hp) (.tupN (hs.free hp) z rb)⟩⟩⟩
theorem cd_list : CallD X (.type "list") (fun ds R => ∃ d xs, ds = [d] ∧ (d = .tup xs ∨ d = .lst xs) ∧ R (.lst xs)) :=
  ⟨_, call_list_of, fun Hs H vs ds R Q hs ra ⟨d, xs, e, hd, h⟩ k => by
    subst e
    cases ra with
    | cons r ra =>
      cases ra
      rcases hd with rfl | rfl
      · cases r with
        | @tup a vs _ z hq rb => exact ⟨a, vs, rfl, .inr (SqT_same hs hq), fun p hp => k _ _ _ _ h (Lay.one hs hp) (.lstN (hs.free hp) z rb)⟩
      · cases r with
        | @lst a vs _ z hq rb => exact ⟨a, vs, rfl, .inl (hs.seq hq), fun p hp => k _ _ _ _ h (Lay.one hs hp) (.lstN (hs.free hp) z rb)⟩⟩

/-! ### all, any, sum -/
theorem rpa_bls {c : Cn} {H : Hp} : ∀ {bs : List Bool} {vs : List V}, RpA c H vs (bs.map D.bl) → vs = bs.map V.bl
  | [], _, r => by
    cases r
    rfl
  | b :: bs, _, r => by
    cases r with
    | cons a t => rw [a.blE, rpa_bls t, List.map_cons]
theorem rpa_ints {c : Cn} {H : Hp} : ∀ {ns : List Int} {vs : List V}, RpA c H vs (ns.map D.int) → vs = ns.map V.int
  | [], _, r => by
    cases r
    rfl
  | b :: bs, _, r => by
    cases r with
    | cons a t => rw [a.intE, rpa_ints t, List.map_cons]
theorem cd_all (hc : X.calm = true) : CallD X (.builtin "all") (fun ds R => ∃ bs : List Bool, ds = [.lst (bs.map .bl)] ∧ R (.bl (bs.all id))) :=
  ⟨_, cr_all hc, fun Hs H vs ds R Q hs ra ⟨bs, e, h⟩ k => by
    subst e
    cases ra with
    | cons r ra =>
      cases ra
      cases r with
      | @lst a vs _ z hq rb =>
        rw [rpa_bls rb] at hq
        exact ⟨a, bs, rfl, hs.seq hq, k _ Hs H _ h (Lay.refl hs) (.bl _)⟩⟩
theorem cd_any (hc : X.calm = true) : CallD X (.builtin "any") (fun ds R => ∃ bs : List Bool, ds = [.lst (bs.map .bl)] ∧ R (.bl (bs.any id))) :=
  ⟨_, cr_any hc, fun Hs H vs ds R Q hs ra ⟨bs, e, h⟩ k => by
    subst e
    cases ra with
    | cons r ra =>
      cases ra
      cases r with
      | @lst a vs _ z hq rb =>
        rw [rpa_bls rb] at hq
        exact ⟨a, bs, rfl, hs.seq hq, k _ Hs H _ h (Lay.refl hs) (.bl _)⟩⟩
theorem cd_sum (hc : X.calm = true) : CallD X (.builtin "sum") (fun ds R => ∃ ns : List Int, ds = [.lst (ns.map .int)] ∧ R (.int ns.sum)) :=
  ⟨_, cr_sum hc, fun Hs H vs ds R Q hs ra ⟨bs, e, h⟩ k => by
    subst e
    cases ra with
    | cons r ra =>
      cases ra
      cases r with
      | @lst a vs _ z hq rb =>
        rw [rpa_ints rb] at hq
        exact ⟨a, bs, rfl, hs.seq hq, k _ Hs H _ h (Lay.refl hs) (.int _)⟩⟩

/-! ### sorted -/
def sortD (xs : List D) : List D := xs.mergeSort fun a b => !ltD b a
/-- what a list must be to be sorted -/
structure SortOk (n : Nat) (xs : List D) : Prop where
  shp : ∀ x ∈ xs, Dv.shp n x = true
  alike : ∀ x ∈ xs, ∀ y ∈ xs, alikeD x y = true
  kind : (∀ x ∈ xs, ∃ y r, x = .tup (y :: r)) ∨ ∀ x ∈ xs, x ≠ .non ∧ ∀ ys, x ≠ .tup ys
/-- the value u is the datum d (with its V) -/
def RsV (c : Cn) (H : Hp) (u : Value) (d : D) : Prop := ∃ v, RelV v u ∧ Rp c H v d
theorem each_rs {c : Cn} {H : Hp} : ∀ {vs : List V} {us : List Value} {ds : List D}, Vals vs us → RpA c H vs ds → PySem.W.EachIs (RsV c H) us ds
  | _, _, _, .nil, .nil => .nil
  | _, _, _, .cons r t, .cons a b => .cons ⟨_, r, a⟩ (each_rs t b)
theorem of_each {c : Cn} {H : Hp} : ∀ {us : List Value} {ds : List D}, PySem.W.EachIs (RsV c H) us ds → ∃ vs, Vals vs us ∧ RpA c H vs ds
  | _, _, .nil => ⟨[], .nil, .nil⟩
  | _, _, .cons ⟨v, r, a⟩ t => by
    obtain ⟨vs, h1, h2⟩ := of_each t
    exact ⟨v :: vs, .cons r h1, .cons a h2⟩
theorem each_reads {pins : List (Addr × Obj)} {σ : L2.St} {H : Hp} {s : Shared} (I : Inv X pins σ H s) {n : Nat} : ∀ {us : List Value} {ds : List D}, (∀ d ∈ ds, shp n d = true) → PySem.W.EachIs (RsV (cn X) H) us ds → PySem.W.EachIs (fun v b => ∃ as, PySem.Reads s.heap v (D.py b) as) us ds
  | _, _, _, .nil => .nil
  | _, _, h, .cons ⟨v, r, a⟩ t => by
    obtain ⟨as, ra⟩ := Dp.reads I _ v _ (a.dp (h _ (by simp))) r
    exact .cons ⟨as, ra⟩ (each_reads I (fun d hd => h d (by simp [hd])) t)
theorem call_sortedD (hu : X.A.units + 70 < cLine) : CallR X (.builtin "sorted") (fun xs H Q => ∃ Hs a vs ds n, xs = [V.ref a] ∧ SqL X.K H a vs ∧ Same Hs H ∧ RpA (cn X) Hs vs ds ∧ n ≤ 60 ∧ SortOk n ds ∧ ∀ p ws, H p = none → RpA (cn X) Hs ws (sortD ds) → Q (.ref p) (upd H p (.lst ws))) := by
  intro pins s σ H xs us Q I r h
  obtain ⟨Hs, a, vs, ds, n, rfl, hq, hs, ra, hn, ok, q⟩ := h
  obtain ⟨u, rfl, ru⟩ := vals1 r
  obtain rfl : u = Value.ref a := ru
  obtain ⟨its, rv, hl, hz⟩ := I.list hq
  have e := each_rs rv ra
  have hlen := ra.length
  refine PySem.W.sorted_data (enc := D.py) (R := RsV (cn X) Hs) hl.isList e (each_reads I ok.shp (each_rs rv (ra.same hs))) ?_ ?_ (by omega) ?_ fun out ho hw => ?_
  · intro d hd d' hd'
    obtain ⟨x, hx, rfl⟩ := List.mem_map.mp hd
    obtain ⟨y, hy, rfl⟩ := List.mem_map.mp hd'
    exact ok.alike x hx y hy
  · rcases ok.kind with k | k
    · left
      intro d hd
      obtain ⟨x, hx, rfl⟩ := List.mem_map.mp hd
      obtain ⟨y, r, rfl⟩ := k x hx
      exact ⟨y.py, pys r, by rw [D.py, pys]⟩
    · right
      intro d hd
      obtain ⟨x, hx, rfl⟩ := List.mem_map.mp hd
      obtain ⟨k1, k2⟩ := k x hx
      refine ⟨py_ne_none (ok.shp x hx) k1, fun ys => ?_⟩
      cases x with
      | tup zs => exact absurd rfl (k2 zs)
      | raw v => have := ok.shp _ hx; simp [Dv.shp] at this
      | _ => rw [D.py]; exact fun z => nomatch z
  · intro b hb
    have := shp_depth (ok.shp b hb)
    omega
  · obtain ⟨ws, h1, h2⟩ := of_each hw
    obtain ⟨en, he⟩ := PyProof.Rows.sortedAll_at s.heap its (List.toArray out)
    have keep : ∀ b ob, s.heap.get? b = some ob → (PyProof.Rows.sortedAll s.heap its (List.toArray out)).get? b = some ob := fun b ob hb => PyProof.Rows.sortedAll_old hb
    refine ⟨.ref (s.heap.objs.size + 1), _, I.laid (t' := s.toks) (o := .lst ws) keep (Nat.le_succ _) ⟨?_, out, en, h1, he⟩, rfl, q _ ws (I.hok.fresh (Nat.le_succ _)) h2⟩
    rw [h2.length]
    rw [List.length_mergeSort]
    omega
theorem cd_sorted (hu : X.A.units + 70 < cLine) : CallD X (.builtin "sorted") (fun ds R => ∃ xs n, ds = [.lst xs] ∧ n ≤ 60 ∧ SortOk n xs ∧ R (.lst (sortD xs))) :=
  ⟨_, call_sortedD hu, fun Hs H vs ds R Q hs ra ⟨xs, n, e, hn, ok, h⟩ k => by
    subst e
    cases ra with
    | cons r ra =>
      cases ra
      cases r with
      | @lst a vs _ z hq rb =>
        exact ⟨Hs, a, vs, xs, n, rfl, hs.seq hq, hs, rb, hn, ok, fun p ws hp rw' => k _ _ _ _ h (Lay.one hs hp) (.lstN (hs.free hp) (by unfold sortD; rw [List.length_mergeSort]; exact z) rw')⟩⟩
end
end Dv

set_option Elab.async false
set_option linter.all false
set_option maxRecDepth 100000
/-! Subscripts, slices, truth, enumerate over data. -/
namespace Dv
open PySem L2

section
variable {X : Cx}
/-! ### subscripts -/
theorem atI_len {α β : Type} {xs : List α} {ys : List β} {i : Int} {v : β} (hl : xs.length = ys.length) (h : atI ys i = some v) : ∃ (j : Nat) (x : α), atI xs i = some x ∧ xs[j]? = some x ∧ ys[j]? = some v := by
  unfold atI at h ⊢
  rw [hl]
  cases e : ixN ys.length i with
  | none => rw [e] at h; cases h
  | some j =>
    rw [e] at h
    obtain ⟨hj, _⟩ := List.getElem?_eq_some_iff.mp h
    have hx : xs[j]? = some xs[j] := List.getElem?_eq_getElem (by omega)
    exact ⟨j, xs[j], by simpa using hx, hx, h⟩
/-- an item of a list, a tuple, a text -/
def ixD (d : D) (i : Int) : Option D := match d with
  | .tup xs => atI xs i
  | .lst xs => atI xs i
  | .str x => (atI x.cps.toList i).map fun k => .str ⟨#[k]⟩
  | _ => none
theorem xd_seq : IxD X (fun d e R => ∃ i v, e = .int i ∧ ixD d i = some v ∧ R v) := by
  refine ⟨_, ix_seq, fun Hs H x y d e R Q hs rx ry ⟨i, v, he, hv, h⟩ k => ?_⟩
  subst he
  cases rx with
  | @tup a vs ds z hq ra =>
    obtain ⟨j, w, h1, h2, h3⟩ := atI_len ra.length hv
    obtain ⟨w', h4, h5⟩ := ra.get h3
    rw [h2] at h4
    cases h4
    exact .inr (.inl ⟨a, vs, i, w, rfl, ry.intE, SqT_same hs hq, h1, k _ Hs H _ h (Lay.refl hs) h5⟩)
  | @lst a vs ds z hq ra =>
    obtain ⟨j, w, h1, h2, h3⟩ := atI_len ra.length hv
    obtain ⟨w', h4, h5⟩ := ra.get h3
    rw [h2] at h4
    cases h4
    exact .inl ⟨a, vs, i, w, rfl, ry.intE, hs.seq hq, h1, k _ Hs H _ h (Lay.refl hs) h5⟩
  | @str x z =>
    have hv' : (atI x.cps.toList i).map (fun k => D.str ⟨#[k]⟩) = some v := hv
    cases e : atI x.cps.toList i with
    | none => rw [e] at hv'; cases hv'
    | some c =>
      rw [e] at hv'
      cases hv'
      exact .inr (.inr ⟨x, i, c, rfl, ry.intE, z, e, k _ Hs H _ h (Lay.refl hs) (.str (by show 1 ≤ sizeLine; decide))⟩)
  | _ => cases hv

/-! ### slices -/
def cutD (xs : List D) (lo hi : Option Int) : List D := (xs.drop (HT.sIx xs.length 0 lo)).take (HT.sIx xs.length xs.length hi - HT.sIx xs.length 0 lo)
theorem RpA.cut {c : Cn} {H : Hp} {vs : List V} {ds : List D} (r : RpA c H vs ds) (lo hi : Option Int) : RpA c H (cutV vs lo hi) (cutD ds lo hi) := by
  unfold cutV cutD
  rw [r.length]
  exact (r.drop _).take _
theorem cutD_length (xs : List D) (lo hi : Option Int) : (cutD xs lo hi).length ≤ xs.length := by
  unfold cutD
  rw [List.length_take, List.length_drop]
  omega
def slD (d : D) (lo hi : Option Int) : Option D := match d with
  | .tup xs => some (.tup (cutD xs lo hi))
  | .lst xs => some (.lst (cutD xs lo hi))
  | .str x => some (.str (cutS x lo hi))
  | _ => none
theorem sd_seq : SlD X (fun d lo hi R => ∃ v, slD d lo hi = some v ∧ R v) := by
  refine ⟨_, sl_list.or (sl_tupA.or sl_str), fun Hs H x lo hi d R Q hs rx ⟨v, hv, h⟩ k => ?_⟩
  cases rx with
  | @tup a vs ds z hq ra =>
    cases hv
    refine .inr (.inl ⟨a, vs, rfl, SqT_same hs hq, fun ⟨e1, e2⟩ => ?_, fun _ p hp => ?_⟩)
    · refine k _ Hs H _ h (Lay.refl hs) ?_
      have : cutD ds lo hi = ds := by
        unfold cutD
        rw [← ra.length, e1, e2, List.drop_zero, Nat.sub_zero, ra.length, List.take_length]
      rw [this]
      exact .tup z hq ra
    · exact k _ _ _ _ h (Lay.one hs hp) (.tupN (hs.free hp) (Nat.le_trans (cutD_length _ _ _) z) (ra.cut lo hi))
  | @lst a vs ds z hq ra =>
    cases hv
    exact .inl ⟨a, vs, rfl, hs.seq hq, fun p hp => k _ _ _ _ h (Lay.one hs hp) (.lstN (hs.free hp) (Nat.le_trans (cutD_length _ _ _) z) (ra.cut lo hi))⟩
  | @str x z =>
    cases hv
    exact .inr (.inr ⟨x, rfl, z, k _ Hs H _ h (Lay.refl hs) (.str (Nat.le_trans (cutS_length _ _ _) z))⟩)
  | _ => cases hv
end

/-! ### [::-1] -/
theorem fm_congr {α β : Type} {f g : α → Option β} : ∀ {l : List α}, (∀ x ∈ l, f x = g x) → l.filterMap f = l.filterMap g
  | [], _ => rfl
  | x :: l, h => by
    rw [List.filterMap_cons, List.filterMap_cons, h x (by simp), fm_congr fun y hy => h y (by simp [hy])]
section
variable {prog : Program} {w : World} {A : Around} {E : Value → Shared → Prop} {s : Shared}
open PyProof.Rows in
theorem getItem_tuple_back {t sl : Addr} {items : Array Value} {u : Tok} {Q : Value → Shared → Prop} (ht : IsTup s.heap t items) (hs : s.heap.IsSliceOf sl .none .none (.int (-1) u))
    (h : Q (.ref s.heap.objs.size) { s with heap := s.heap.push { cls := .type "tuple", data := .seq items.toList.reverse.toArray } }) (hsz : items.size ≤ sizeLine) : wpAny (model prog w) A (getItem (.ref t) (.ref sl)) Q E s := by
  have htake : sizeOk (.seq items.toList.reverse.toArray) := by
    show items.toList.reverse.toArray.size ≤ sizeLine
    rw [List.size_toArray, List.length_reverse, Array.length_toList]
    exact hsz
  obtain ⟨os, hos, hcs, hds⟩ := id hs
  have hTs : s.TypeIs (.ref sl) "slice" := ⟨os, hos, hcs⟩
  unfold getItem
  try with_reducible refine wpAny_holding ?_
  first | refine wpAny_bind (wpAny_pure ?_) | skip
  refine wpAny_bind (wpAny_sequenceKey ht.typeIs (by decide) ?_)
  refine wpAny_bind (wpAny_callSpecial?_slot (name := Str.ofString "__getitem__") ht.typeIs PyProof.Rows.slot_tuple_getitem
    (wpAny_call_entry PyProof.Rows.slot_tuple_getitem ht.typeIs entry_tuple_getitem ?_ (args_tuple_getitem _ _)))
  show wpAny _ _ (Builtin.Tuple.tupleItemsOf (.ref t) >>= _) _ _ s
  refine wpAny_bind (PyProof.Rows.tupleItemsOf_ ht ?_)
  refine wpAny_bind (wpAny_typeOf hTs ?_)
  rw [if_pos (by decide)]
  have hap : ∀ {A' : Around} {Q' : Int × Int × Nat → Shared → Prop}, Q' ((items.size : Int) - 1, -1, items.size) s → wpAny (model prog w) A' (Builtin.Slice.sliceApplied (.ref sl) (pure (items.size : Int))) Q' E s := fun {A' Q'} hq => by
    unfold Builtin.Slice.sliceApplied Builtin.Slice.sliceFields
    refine wpAny_bind (wpAny_bind (wpAny_field hos hds (x := .none) rfl (wpAny_bind (wpAny_field hos hds (x := .none) rfl (wpAny_bind (wpAny_field hos hds (x := .int (-1) u) rfl (wpAny_pure ?_)))))))
    refine wpAny_bind (PyProof.Rows.slicePart_int ?_)
    show wpAny _ _ (if ((-1 : Int) == 0) = true then _ else _) _ _ s
    rw [if_neg (by decide)]
    refine wpAny_bind (PyProof.Rows.slicePart_none (wpAny_bind (PyProof.Rows.slicePart_none (wpAny_bind (wpAny_pure ?_)))))
    show wpAny _ _ (pure ((items.size : Int) - 1, (-1 : Int), Builtin.Slice.slicePlaces ((items.size : Int) - 1) (-1) (-1))) _ _ s
    have e : Builtin.Slice.slicePlaces ((items.size : Int) - 1) (-1) (-1) = items.size := by
      unfold Builtin.Slice.slicePlaces
      rw [if_neg (by decide)]
      split <;> simp <;> omega
    rw [e]
    exact wpAny_pure hq
  refine wpAny_bind (hap ?_)
  have hno : ¬ ((((items.size : Int) - 1) == 0 && (-1 : Int) == 1 && items.size == items.size) = true) := by simp
  show wpAny _ _ (if (((items.size : Int) - 1) == 0 && (-1 : Int) == 1 && items.size == items.size) = true then _ else _) _ _ s
  have hpick : ((List.range items.size).filterMap fun (m : Nat) => items[((items.size : Int) - 1 + (m : Int) * (-1)).toNat]?).toArray = items.toList.reverse.toArray := by
    have e1 : (List.range items.size).filterMap (fun (m : Nat) => items[((items.size : Int) - 1 + (m : Int) * (-1)).toNat]?) = (List.range items.size).filterMap ((fun k => items[k]?) ∘ fun k => items.size - 1 - k) := by
      refine fm_congr fun m hm => ?_
      have := List.mem_range.mp hm
      have e : ((items.size : Int) - 1 + (m : Int) * (-1)).toNat = items.size - 1 - m := by omega
      show items[((items.size : Int) - 1 + (m : Int) * (-1)).toNat]? = items[items.size - 1 - m]?
      rw [e]
    rw [e1, ← List.filterMap_map, PySem.W.krv_range, List.filterMap_reverse, PySem.W.krv_all]
  rw [if_neg hno, hpick]
  first
    | exact wpAny_bind (m := Builtin.Tuple.tupleExact _) (wpAny_newObj_type (wpAny_pure ⟨_, rfl, wpAny_pure h⟩) htake)
    | exact wpAny_bind (m := Builtin.Tuple.tupleExact _) (wpAny_newObj_type (wpAny_bind (wpAny_pure (wpAny_pure ⟨_, rfl, wpAny_pure h⟩))) htake)
    | exact wpAny_bind (wpAny_bind (m := Builtin.Tuple.tupleExact _) (wpAny_newObj_type (wpAny_pure (wpAny_pure ⟨_, rfl, wpAny_pure h⟩)) htake))
    | exact wpAny_bind (wpAny_bind (m := Builtin.Tuple.tupleExact _) (wpAny_newObj_type (wpAny_pure ⟨_, rfl, wpAny_pure h⟩) htake))
end
/-- t[::-1] of a tuple -/
def tRevT (K : PySem.W.Frag) (te : TE) : TE := fun σ H Q => te σ H fun x H1 => ∃ a xs, x = .ref a ∧ SqT K H1 a xs ∧ ∀ p, H1 p = none → Q (.ref p) (upd H1 p (.tup xs.reverse))
open PySem.Spec PyProof.Rows in
theorem pe_revT {X : Cx} {e : Expr} {te : TE} {k : Nat} {p1 p2 p3 pos : Pos} (he : PE X e te) : PE X (.Subscript e (.Slice none none (some (.UnaryOp .USub (.Constant (.int 1) k p1) p2)) p3) pos) (tRevT X.K te) := by
  refine ⟨fun pins s σ H Q I h => ?_⟩
  refine Subscript_ (thn (he.run pins s σ H _ I h) fun v s1 ⟨x, H1, I1, r1, q1⟩ => ?_)
  obtain ⟨a, xs, ex, hx, q⟩ := q1
  subst ex
  cases r1
  have hst : PO X (some (.UnaryOp .USub (.Constant (.int 1) k p1) p2)) (tPart (tUn (rU fun i => .int (-i)) (tC (.int 1)))) := po_some (pe_un un_neg pe_int)
  refine wpAny_Slice (thn (po_none.run pins s1 σ H1 (fun o H2 => o = none ∧ H2 = H1) I1 ⟨rfl, rfl⟩) fun vl s2 ⟨l, H2, I2, pl, el, e2⟩ => ?_)
  subst el e2
  refine thn (po_none.run pins s2 σ H2 (fun o H3 => o = none ∧ H3 = H2) I2 ⟨rfl, rfl⟩) fun vu s3 ⟨u, H3, I3, pu, eu, e3⟩ => ?_
  subst eu e3
  refine thn (hst.run pins s3 σ H3 (fun o H4 => o = some (-1) ∧ H4 = H3) I3 ⟨1, rfl, -1, rfl, rfl, rfl⟩) fun vs s4 ⟨o, H4, I4, ps, eo, e4⟩ => ?_
  subst eo e4
  have I5 : Inv X pins σ H4 { s4 with heap := s4.heap.push { cls := .type "slice", data := .fields #[vl, vu, vs] } } := I4.kept (t' := s4.toks) fun b ob q => Heap.get?_push_of_some _ q
  obtain ⟨its, r, ht, hz⟩ := I5.tuple hx
  have hlen := r.length
  cases pl
  cases pu
  cases ps with
  | int _ tk =>
    show wpAny (model X.prog X.w) X.A (subscriptTail e (.Slice none none (some (.UnaryOp .USub (.Constant (.int 1) k p1) p2)) p3) (.ref a) (.ref s4.heap.objs.size)) (EP X pins σ Q) X.xe { s4 with heap := s4.heap.push { cls := .type "slice", data := .fields #[.none, .none, .int (-1) tk] } }
    refine tail_any (ops := [.ref a, .ref s4.heap.objs.size]) ht.typeIs (PyProof.Rows.slot_tuple_getitem.lookup) ?_ (by with_unfolding_all rfl)
    refine getItem_tuple_back ht (Heap.IsSliceOf.new _ .none .none (.int (-1) tk)) ?_ (by rw [List.size_toArray]; omega)
    refine ⟨.ref _, _, I5.laid (t' := s4.toks) (o := .tup xs.reverse) (fun b ob q => Heap.get?_push_of_some _ q) (Nat.le_refl _) ?_, rfl, q _ (I5.hok.fresh (Nat.le_refl _))⟩
    exact ⟨by rw [List.length_reverse]; exact hz, _, r.reverse, ⟨_, Heap.get?_push_size _ rfl, rfl, 0, by simp⟩⟩
section
variable {W : Wld} {B : Bs W} {X : Cx} {e : Expr} {te : TD W} {pos : Pos}
def dRevT (te : TD W) : TD W := fun ρ s Q => te ρ s fun d s1 => ∃ xs, d = .tup xs ∧ Q (.tup xs.reverse) s1
def dRevL (te : TD W) : TD W := fun ρ s Q => te ρ s fun d s1 => ∃ xs, d = .lst xs ∧ Q (.lst xs.reverse) s1
theorem de_revT {k : Nat} {p1 p2 p3 : Pos} (he : DE W B X e te) : DE W B X (.Subscript e (.Slice none none (some (.UnaryOp .USub (.Constant (.int 1) k p1) p2)) p3) pos) (dRevT te) :=
  ⟨pe_imp (pe_revT he.run) fun σ H Q ⟨Hs, ρ, s, R, S, h1, kk⟩ => ⟨Hs, ρ, s, _, S, h1, fun d s1 Hs1 H1 v hR g rv => by
    obtain ⟨xs, rfl, hq⟩ := hR
    cases rv with
    | @tup a vs _ z hs ra =>
      exact ⟨a, vs, rfl, SqT_same g.sub hs, fun p hp => kk _ s1 _ _ _ hq (g.trans ((Lay.one g.sub hp).go g.rel)) (.tupN (g.sub.free hp) (by rw [List.length_reverse]; exact z) ra.rev)⟩⟩⟩
theorem de_revL {k : Nat} {p1 p2 p3 : Pos} (he : DE W B X e te) : DE W B X (.Subscript e (.Slice none none (some (.UnaryOp .USub (.Constant (.int 1) k p1) p2)) p3) pos) (dRevL te) :=
  ⟨pe_imp (pe_revL he.run) fun σ H Q ⟨Hs, ρ, s, R, S, h1, kk⟩ => ⟨Hs, ρ, s, _, S, h1, fun d s1 Hs1 H1 v hR g rv => by
    obtain ⟨xs, rfl, hq⟩ := hR
    cases rv with
    | @lst a vs _ z hs ra =>
      exact ⟨a, vs, rfl, g.sub.seq hs, fun p hp => kk _ s1 _ _ _ hq (g.trans ((Lay.one g.sub hp).go g.rel)) (.lstN (g.sub.free hp) (by rw [List.length_reverse]; exact z) ra.rev)⟩⟩⟩

/-! ### truth of a datum -/
def truD : D → Option Bool
  | .non => some false
  | .bl b => some b
  | .int i => some (i != 0)
  | .str x => some ((x.length : Int) != 0)
  | .tup xs => some (!xs.isEmpty)
  | .lst xs => some (!xs.isEmpty)
  | _ => none
theorem empty_len {α β : Type} {xs : List α} {ys : List β} (h : xs.length = ys.length) : xs.isEmpty = ys.isEmpty := by
  cases xs <;> cases ys <;> first | rfl | cases h
def dTru (te : TD W) : TDB W := fun ρ s Q => te ρ s fun d s1 => ∃ b, truD d = some b ∧ Q b s1
theorem dt_truth (he : DE W B X e te) (hw : ∀ whole, isTrue e X.env whole = (do let v ← whole; standAt e.pos; holding [v] (truthy v)) := by intro _; rfl) : DT W B X e (dTru te) :=
  ⟨pt_imp (pt_truth he.run hw) fun σ H Q ⟨Hs, ρ, s, R, S, h1, kk⟩ => ⟨Hs, ρ, s, _, S, h1, fun d s1 Hs1 H1 v hR g rv => by
    obtain ⟨b, hb, hq⟩ := hR
    refine ⟨b, ?_, kk b s1 Hs1 H1 hq g⟩
    cases rv with
    | non => cases hb; rfl
    | bl x => cases hb; rfl
    | int i => cases hb; rfl
    | str z => cases hb; exact ⟨z, rfl⟩
    | @tup a vs _ z hs ra => cases hb; exact .inr (.inl ⟨vs, SqT_same g.sub hs, by rw [empty_len ra.length]⟩)
    | @lst a vs _ z hs ra => cases hb; exact .inl ⟨vs, g.sub.seq hs, by rw [empty_len ra.length]⟩
    | _ => cases hb⟩⟩
end
end Dv

set_option Elab.async false
set_option linter.all false
set_option maxRecDepth 100000
/-! enumerate over a list or a tuple. -/
namespace PySem
open AutoSeq1 (wpAny_loadPart')
theorem meets_enumerate_newT (l : Addr) (items : Array Value) (n : Nat) (dct : Option Addr) (sl : Array (Option Value)) :
    Meets (Builtin.«enumerate.__new__» ⟨[.type "enumerate", .ref l], []⟩) (fun _ R s => s.heap.get? l = some { cls := .type "tuple", dict := dct, data := .seq items n, slots := sl } ∧
      R (.ok (.ret (.ref (s.heap.push { cls := .type "tuple_iterator", data := .fields #[.ref l, .int 0 0] }).objs.size)))
        { s with heap := (s.heap.push { cls := .type "tuple_iterator", data := .fields #[.ref l, .int 0 0] }).push { cls := .type "enumerate", data := .fields #[.none, .bool false, .ref s.heap.objs.size, rawInt 0, .none, .none] } }) :=
  .of_wp fun prog w A R s h => by
    obtain ⟨hp, g, d, tk, os⟩ := s; obtain ⟨hl, h⟩ := h
    have hsub := sub_enumerate
    have hL : Heap.IsTuple (Shared.heap ⟨hp, g, d, tk, os⟩) l items := ⟨_, hl, rfl, n, rfl⟩
    wp_walk using wpAny_loadPart' hl
    refine wpAny_stack_any fun st => wpAny_pure ?_
    split
    · rename_i c _ _ _ _ _
      cases (c == Value.type "enumerate")
      · wp_walk using wpAny_loadPart' hl, wpAny_pyIter_tuple hL
        exact ⟨_, rfl, h⟩
      · wp_walk using wpAny_loadPart' hl, wpAny_pyIter_tuple hL
        exact ⟨_, rfl, h⟩
    · wp_walk using wpAny_loadPart' hl, wpAny_pyIter_tuple hL
      exact ⟨_, rfl, h⟩
section
variable {prog : Program} {w : World} {A : Around} {E : Value → Shared → Prop} {s : Shared}
theorem call_enumerate_tuple {l : Addr} {items : Array Value} {Q : Value → Shared → Prop} (hL : s.heap.IsTuple l items)
    (h : ∀ h', IsEnum h' (s.heap.objs.size + 1) s.heap.objs.size 0 .none → h'.IsTupleIter s.heap.objs.size l 0 → h'.objs.size = s.heap.objs.size + 2 →
      (∀ b o, s.heap.get? b = some o → h'.get? b = some o) → Q (.ref (s.heap.objs.size + 1)) { s with heap := h' }) :
    wpAny (model prog w) A (call (.type "enumerate") [.ref l]) Q E s := by
  obtain ⟨⟨c, dct, dt, sl⟩, hl, hc, n, hd⟩ := hL
  replace hc : c = .type "tuple" := hc
  replace hd : dt = .seq items n := hd
  subst hc hd
  refine callType_new F.called_enumerate (by decide) (F.typeCall_enumerate_1 _) (F.newCall_enumerate_1 _) (fun obj => F.args_object_init_2 obj _) F.entry_enumerate_new
    (meets_enumerate_newT l items n dct sl) ⟨hl, ?_⟩
  have hz : (s.heap.push { cls := .type "tuple_iterator", data := .fields #[.ref l, .int 0 0] }).objs.size = s.heap.objs.size + 1 := Heap.size_push ..
  show _ ∧ _
  rw [hz]
  have he : IsEnum ((s.heap.push { cls := .type "tuple_iterator", data := .fields #[.ref l, .int 0 0] }).push
      { cls := .type "enumerate", data := .fields #[.none, .bool false, .ref s.heap.objs.size, rawInt 0, .none, .none] }) (s.heap.objs.size + 1) s.heap.objs.size 0 .none := by
    have := Heap.get?_push_size (s.heap.push { cls := .type "tuple_iterator", data := .fields #[.ref l, .int 0 0] })
      (o := { cls := .type "enumerate", data := .fields #[.none, .bool false, .ref s.heap.objs.size, rawInt 0, .none, .none] }) rfl
    rw [hz] at this; exact this
  refine ⟨⟨_, he, rfl⟩, h _ he ⟨_, Heap.get?_push_of_some _ (Heap.get?_push_size _ rfl), rfl, rfl⟩ (by rw [Heap.size_push, hz]) fun b o x => Heap.get?_push_of_some _ (Heap.get?_push_of_some _ x)⟩
end
end PySem

namespace Dv
open PySem L2
/-- a tuple, each item in a new pair -/
def IteT (K : PySem.W.Frag) (a : Addr) : It :=
  ⟨fun i H => ∃ (xs : List V) (x : V), SqT K H a xs ∧ xs[i]? = some x, fun i H v H' => ∃ T x, v = .ref T ∧ H T = none ∧ H' = upd H T (.tup [.int (i : Nat), x]) ∧ ∀ xs, SqT K H a xs → xs[i]? = some x, fun i H => ∃ xs : List V, SqT K H a xs ∧ xs.length = i⟩
open PySem.Spec PyProof.Rows in
theorem turn_enumT {P : Program} {w : World} {K : PySem.W.Frag} {elts : List Expr} {kk : Nat} {tpos : Pos} (a e it : Addr) :
    Turn P w K (.Tuple elts kk tpos) (IteT K a) [e, it] e (fun i h => (∃ old, IsEnum h e it ((i : Nat) : Int) old) ∧ h.IsTupleIter it a i ∧ e ≠ it) where
  mem := by simp
  obj := fun i h st b hb => by
    obtain ⟨⟨old, he⟩, ⟨o, ho, hc, hd⟩, _⟩ := st
    have e' : b = e ∨ b = it := by simpa using hb
    rcases e' with z | z
    · rw [z]; exact ⟨_, he, fun v q => nomatch q⟩
    · rw [z]; exact ⟨o, ho, fun v q => by rw [hd] at q; cases q⟩
  keep := fun i h h' st k => let ⟨⟨old, he⟩, hi, hne⟩ := st; ⟨⟨old, k e (by simp) _ he⟩, hi.at fun o q => k it (by simp) o q, hne⟩
  item := by
    intro X hP hw hK hc i pins s σ H E I hf st hg
    subst hP hw hK
    obtain ⟨⟨old, he⟩, hit, hne⟩ := st
    obtain ⟨xs, x, hq, hx⟩ := hg
    obtain ⟨its, rv, p, hz⟩ := I.tuple hq
    obtain ⟨u, hu, ru⟩ := rv.get hx
    have hel : e < s.heap.objs.size := Heap.lt_size he
    have hil : it < s.heap.objs.size := by obtain ⟨_, q, _⟩ := hit; exact Heap.lt_size q
    have hhd : X.A.in1.handled = none := I.ok.hd hc
    have hat : a ≠ it := fun z => by
      obtain ⟨o, ho, hcl, _⟩ := p
      obtain ⟨o2, ho2, hcl2, _⟩ := hit
      rw [z, ho2] at ho
      cases ho
      rw [hcl2] at hcl
      exact absurd (Value.type.inj hcl) (by decide)
    have hae : a ≠ e := fun z => by
      obtain ⟨o, ho, hcl, _⟩ := p
      have he' : s.heap.get? e = some _ := he
      rw [z, he'] at ho
      cases ho
      exact absurd (Value.type.inj hcl) (by decide)
    have hlt : i < its.toArray.size := by
      have := (List.getElem?_eq_some_iff.mp hu).1
      simpa using this
    refine wpAny_pyNext_enum_itemC (Draws.tuple hhd it a hat its.toArray) he ⟨hit, p⟩ hlt hne (by simp [hne, Ne.symm hae]) fun x' h' tk hP ho hst hT hsz hk => ?_
    have ex : x' = u := by
      have : its.toArray[i]? = some x' := hP
      rw [List.getElem?_toArray, hu] at this
      exact (Option.some.inj this).symm
    subst ex
    refine ⟨_, rfl, wpAny_letOwnedTupleGo_enum (s := { s with heap := h', toks := tk + 1 }) ho fun h'' he' sb => ?_⟩
    have hT2 : h''.get? s.heap.objs.size = some { cls := .type "tuple", data := .seq #[.int i tk, x'] } := (sb.2 _ (Nat.ne_of_gt hel)).trans hT
    have new : ObjOk X.prog X.w (upd H s.heap.objs.size (.tup [.int (i : Nat), x])) h'' s.heap.objs.size (.tup [.int (i : Nat), x]) :=
      ⟨by show 2 ≤ sizeLine; decide, [.int i tk, x'], .cons ⟨_, rfl⟩ (.cons ru .nil), ⟨_, hT2, rfl, _, rfl⟩⟩
    have I1 : Inv X pins σ (upd H s.heap.objs.size (.tup [.int (i : Nat), x])) { s with heap := h'', toks := tk + 1 } :=
      I.turnedNew (ch := [e, it]) (fun b ob hb q => (sb.2 b (fun z => hb (by simp [z]))).trans (hk b ob (fun z => hb (by simp [z])) (fun z => hb (by simp [z])) q)) hf (Nat.le_refl _) new
    refine ⟨.ref s.heap.objs.size, _, I1, rfl, ⟨_, x, rfl, I.hok.fresh (Nat.le_refl _), rfl, fun ys hy => by rw [I.tuple_inj hy hq]; exact hx⟩, ⟨⟨x', ?_⟩, hst.1.at fun o q => (sb.2 it (Ne.symm hne)).trans q, hne⟩, fun b hb => ?_⟩
    · have e1 : ((i + 1 : Nat) : Int) = (i : Int) + 1 := by omega
      rw [e1]; exact he'
    · have hb' : b < s.heap.objs.size := by
        have e' : b = e ∨ b = it := by simpa using hb
        rcases e' with z | z
        · rw [z]; exact hel
        · rw [z]; exact hil
      rw [upd_ne (Nat.ne_of_lt hb')]
      exact (hf b hb).1
  done := by
    intro X hP hw hK hc i pins s σ H E I hf st hg
    subst hP hw hK
    obtain ⟨⟨old, he⟩, hit, hne⟩ := st
    obtain ⟨xs, hq, hx⟩ := hg
    obtain ⟨its, rv, p, hz⟩ := I.tuple hq
    obtain ⟨f0, f1, f2, f3, f4, f5⟩ := hf it (by simp)
    have hl := rv.length
    have hhd : X.A.in1.handled = none := I.ok.hd hc
    have hat : a ≠ it := fun z => by
      obtain ⟨o, ho, hcl, _⟩ := p
      obtain ⟨o2, ho2, hcl2, _⟩ := hit
      rw [z, ho2] at ho
      cases ho
      rw [hcl2] at hcl
      exact absurd (Value.type.inj hcl) (by decide)
    subst hx
    have e0 : xs.length = its.toArray.size := by simp [hl]
    rw [e0] at hit
    exact wpAny_pyNext_enum_endD (Draws.tuple hhd it a hat its.toArray) he ⟨hit, p⟩ fun h' eb => ⟨rfl, I.turned (t' := s.toks) (fun b o hb q => eb b o hb q) f0 f1 f3 f4 f5⟩
  self := fun A i s Q E st h => let ⟨⟨_, he⟩, _⟩ := st; wpAny_pyIter_enum he h
/-- the pairs of enumerate -/
def enumD (xs : List D) : List D := xs.zipIdx.map fun p => .tup [.int (p.2 : Nat), p.1]
theorem enumD_len (xs : List D) : (enumD xs).length = xs.length := by simp [enumD]
theorem enumD_at {xs : List D} {i : Nat} {d : D} (h : (enumD xs)[i]? = some d) : ∃ x, xs[i]? = some x ∧ d = .tup [.int (i : Nat), x] := by
  unfold enumD at h
  rw [List.getElem?_map, List.getElem?_zipIdx] at h
  cases e : xs[i]? with
  | none => rw [e] at h; cases h
  | some x =>
    rw [e] at h
    cases h
    exact ⟨x, rfl, by simp⟩
theorem pair_lay {c : Cn} {Hs H : Hp} {T : Addr} {i : Nat} {v : V} {x : D} (hs : Same Hs H) (hT : H T = none) (r : Rp c Hs v x) : ∃ Hs', Lay Hs H Hs' (upd H T (.tup [.int (i : Nat), v])) ∧ Rp c Hs' (.ref T) (.tup [.int (i : Nat), x]) :=
  ⟨_, Lay.one hs hT, .tupN (hs.free hT) (by show 2 ≤ sizeLine; decide) (.cons (.int _) (.one r))⟩
theorem WalkD.enumL {c : Cn} {Hs0 : Hp} {a : Addr} {vs : List V} {xs : List D} (h : SqL c.K Hs0 a vs) (r : RpA c Hs0 vs xs) : WalkD c Hs0 (Ite c.K a) (enumD xs) where
  go := fun i Hs H s1 s2 hi => by
    rw [enumD_len] at hi
    obtain ⟨v, hv, _⟩ := r.get (List.getElem?_eq_getElem hi)
    exact ⟨vs, v, s2.seq (s1.seq h), hv⟩
  stop := fun Hs H s1 s2 => ⟨vs, s2.seq (s1.seq h), by rw [r.length, enumD_len]; exact Nat.le_refl _⟩
  yld := fun i d Hs H x H' s1 s2 hd ⟨T, y, e1, e2, e3, hy⟩ => by
    subst e1 e3
    obtain ⟨z, hz, rfl⟩ := enumD_at hd
    obtain ⟨v, hv, rv⟩ := r.get hz
    have q := hy vs (s2.seq (s1.seq h))
    rw [hv] at q
    cases q
    exact pair_lay s2 e2 (rv.same s1)
theorem WalkD.enumT {c : Cn} {Hs0 : Hp} {a : Addr} {vs : List V} {xs : List D} (h : SqT c.K Hs0 a vs) (r : RpA c Hs0 vs xs) : WalkD c Hs0 (IteT c.K a) (enumD xs) where
  go := fun i Hs H s1 s2 hi => by
    rw [enumD_len] at hi
    obtain ⟨v, hv, _⟩ := r.get (List.getElem?_eq_getElem hi)
    exact ⟨vs, v, SqT_same s2 (SqT_same s1 h), hv⟩
  stop := fun Hs H s1 s2 => ⟨vs, SqT_same s2 (SqT_same s1 h), by rw [r.length, enumD_len]⟩
  yld := fun i d Hs H x H' s1 s2 hd ⟨T, y, e1, e2, e3, hy⟩ => by
    subst e1 e3
    obtain ⟨z, hz, rfl⟩ := enumD_at hd
    obtain ⟨v, hv, rv⟩ := r.get hz
    have q := hy vs (SqT_same s2 (SqT_same s1 h))
    rw [hv] at q
    cases q
    exact pair_lay s2 e2 (rv.same s1)
def dEnum {W : Wld} (t : TDA W) : TDI W := fun ρ s Q => t ρ s fun ds s1 => ∃ d xs, ds = [d] ∧ (d = .tup xs ∨ d = .lst xs) ∧ (xs.length ≤ sizeLine → Q (enumD xs) s1)
open PySem.Spec PyProof.Rows in
theorem di_enum {W : Wld} {B : Bs W} {X : Cx} {e : Expr} {ta : TDA W} {p pos tpos : Pos} {elts : List Expr} {kk : Nat} (hg : Gl X "enumerate") (hm : X.mg "enumerate" = none) (ha : DA W B X [e] ta) (hs : starEach [e] X.env = [(false, eval e X.env)] := by rfl) :
    DI W B X (.Tuple elts kk tpos) (.Call (.Name "enumerate" p) [e] [] pos) (dEnum ta) := by
  refine ⟨⟨fun pins s σ H R I hw => ?_⟩⟩
  obtain ⟨Hs, ρ, st, R', S, h1, k⟩ := hw
  refine Call_ (ld_blt I hg hm boot_enumerate (PyProof.Rows.callWith_type1 (thn (ha.run.run pos pins s σ H (fun vs H' => ∃ d s' Hs' xs v, vs = [v] ∧ Go W st Hs H s' Hs' H' ∧ Rp (cn X) Hs' v d ∧ (d = .tup xs ∨ d = .lst xs) ∧ (xs.length ≤ sizeLine → R' (enumD xs) s')) I ⟨Hs, ρ, st, _, S, h1, fun ds s' Hs' H' vs hd g r => by
    obtain ⟨d, xs, rfl, e1, e2⟩ := hd
    cases r with
    | cons r r2 =>
      cases r2
      exact ⟨d, s', Hs', xs, _, rfl, g, r, e1, e2⟩⟩) fun us s1 ⟨vs, H1, I1, rv, d, s', Hs', xs, v, ev, g, r, e1, e2⟩ => ?_) hs rfl))
  subst ev
  obtain ⟨u, rfl, ru⟩ := vals1 rv
  have fin : ∀ (h' : Heap) (J : It) (a : Addr) (tn : Nat → Heap → Prop), (∀ b o, s1.heap.get? b = some o → h'.get? b = some o) → Turn X.prog X.w X.K (.Tuple elts kk tpos) J [s1.heap.objs.size + 1, s1.heap.objs.size] (s1.heap.objs.size + 1) tn → tn 0 h' → R J H1 →
      PIE X pins σ (.Tuple elts kk tpos) R (.ref (s1.heap.objs.size + 1)) { s1 with heap := h' } := fun h' J a tn hk T h0 q => by
    have I2 : Inv X pins σ H1 { s1 with heap := h' } := I1.kept (t' := s1.toks) hk
    refine ⟨s1.heap.objs.size + 1, [s1.heap.objs.size + 1, s1.heap.objs.size], _, J, H1, rfl, I2, T, h0, fun b hb => ?_, q⟩
    have e' : b = s1.heap.objs.size + 1 ∨ b = s1.heap.objs.size := by simpa using hb
    have hle : s1.heap.objs.size ≤ b := by
      rcases e' with z | z
      · rw [z]; exact Nat.le_add_right _ _
      · rw [z]; exact Nat.le_refl _
    exact I1.fpOk hle (I1.hok.fresh hle)
  rcases e1 with rfl | rfl
  · cases r with
    | @tup a vs _ z hq ra =>
      cases ru
      obtain ⟨its, rv', p', hz⟩ := I1.tuple (SqT_same g.sub hq)
      refine call_enumerate_tuple (show s1.heap.IsTuple a its.toArray from p') fun h' he hit hsz hk => wpAny_pyIter_enum he ?_
      exact fin h' _ a _ hk (turn_enumT a (s1.heap.objs.size + 1) s1.heap.objs.size) ⟨⟨.none, he⟩, hit, Nat.succ_ne_self _⟩ (k _ s' Hs' H1 _ (e2 z) g (.enumT hq ra))
  · cases r with
    | @lst a vs _ z hq ra =>
      cases ru
      obtain ⟨its, rv', p', hz⟩ := I1.list (g.sub.seq hq)
      refine call_enumerate_list p'.isList fun h' he hit hsz hk => wpAny_pyIter_enum he ?_
      exact fin h' _ a _ hk (turn_enum a (s1.heap.objs.size + 1) s1.heap.objs.size) ⟨⟨.none, he⟩, hit, Nat.succ_ne_self _⟩ (k _ s' Hs' H1 _ (e2 z) g (.enumL hq ra))
end Dv

set_option Elab.async false
set_option linter.all false
set_option maxRecDepth 100000
/-! Dicts over data. -/
namespace Dv
open PySem L2

/-! ### keys -/
mutual
theorem Rp.nest {X : Cx} {pins : List (Addr × Obj)} {σ : L2.St} {H : Hp} {s : Shared} (I : Inv X pins σ H s) : ∀ {v : V} {d : D} {n : NestedKey} {u : Value}, Rp (cn X) H v d → nk d = some n → RelV v u → NestedIs s.heap n u
  | _, _, _, _, .non, e, r => by
    cases e
    cases r
    exact .none
  | _, _, _, _, .bl b, e, r => by
    cases e
    cases r
    exact .bool rfl
  | _, _, _, _, .int i, e, r => by
    cases e
    obtain ⟨t, rfl⟩ := r
    exact .int i t
  | _, _, _, _, .str z, e, r => by
    cases e
    obtain ⟨t, rfl⟩ := r
    exact .text _ t
  | _, _, _, _, .tup z hq ra, e, r => by
    rw [nk] at e
    cases h : nk.nks _ with
    | none => rw [h] at e; cases e
    | some ks =>
      rw [h] at e
      cases e
      cases r
      obtain ⟨its, rv, ⟨o, h1, h2, m, h3⟩, _⟩ := I.tuple hq
      exact .tup h1 h2 h3 (by simpa using RpA.nest I ra h rv)
  | _, _, _, _, .lst _ _ _, e, _ => by cases e
  | _, _, _, _, .dic _ _ _ _, e, _ => by cases e
  | _, _, _, _, .raw _, e, _ => by cases e
theorem RpA.nest {X : Cx} {pins : List (Addr × Obj)} {σ : L2.St} {H : Hp} {s : Shared} (I : Inv X pins σ H s) : ∀ {vs : List V} {ds : List D} {ns : List NestedKey} {us : List Value}, RpA (cn X) H vs ds → nk.nks ds = some ns → Vals vs us → NestedAll s.heap ns us
  | _, _, _, _, .nil, e, r => by
    cases e
    cases r
    exact .nil
  | _, _, _, _, .cons a t, e, r => by
    rw [nk.nks] at e
    split at e
    · rename_i k ks h1 h2
      cases e
      cases r with
      | cons r1 r2 => exact .cons (Rp.nest I a h1 r1) (RpA.nest I t h2 r2)
    · cases e
end
mutual
theorem nk_depth : ∀ {m : Nat} {d : D} {n : NestedKey}, shp m d = true → nk d = some n → n.depth ≤ m
  | m, .non, _, _, e => by
    cases e
    simp [NestedKey.depth]
  | m, .bl _, _, _, e => by
    cases e
    simp [NestedKey.depth]
  | m, .int _, _, _, e => by
    cases e
    simp [NestedKey.depth]
  | m, .str _, _, _, e => by
    cases e
    simp [NestedKey.depth]
  | 0, .tup _, _, h, _ => by simp [shp] at h
  | m + 1, .tup xs, _, h, e => by
    rw [nk] at e
    cases q : nk.nks xs with
    | none => rw [q] at e; cases e
    | some ks =>
      rw [q] at e
      cases e
      rw [shp, List.all_eq_true] at h
      rw [NestedKey.depth]
      have := nks_depth h q
      omega
  | m, .lst _, _, _, e => by cases e
  | m, .dic _, _, _, e => by cases e
  | m, .raw _, _, _, e => by cases e
theorem nks_depth : ∀ {m : Nat} {ds : List D} {ns : List NestedKey}, (∀ x ∈ ds, shp m x = true) → nk.nks ds = some ns → NestedKey.depthAll ns ≤ m
  | m, [], _, _, e => by
    cases e
    simp [NestedKey.depthAll]
  | m, d :: ds, _, h, e => by
    rw [nk.nks] at e
    split at e
    · rename_i k ks h1 h2
      cases e
      rw [NestedKey.depthAll]
      have a := nk_depth (h d (by simp)) h1
      have b := nks_depth (fun x hx => h x (by simp [hx])) h2
      omega
    · cases e
end
/-- all keys are tuples -/
def tupK (kvs : List (D × D)) : Prop := ∀ p ∈ kvs, shp 8 p.1 = true ∧ ∃ xs, p.1 = .tup xs
inductive XR (c : Cn) (H : Hp) : List (NestedKey × Addr × Value) → List (D × D) → Prop
  | nil : XR c H [] []
  | cons {n : NestedKey} {a : Addr} {u : Value} {v : V} {k d : D} {xs : List (NestedKey × Addr × Value)} {kvs : List (D × D)} : Rp c H (.ref a) k → nk k = some n → n.depth ≤ 8 → RelV v u → Rp c H v d → XR c H xs kvs → XR c H ((n, a, u) :: xs) ((k, d) :: kvs)
theorem RpE.xr {c : Cn} {H : Hp} : ∀ {es : List DictEntry} {kvs : List (D × D)}, RpE c H es kvs → tupK kvs → ∃ xs, es = xs.map (entryOfKey (nestedKind c.P c.w)) ∧ XR c H xs kvs
  | _, _, .nil, _ => ⟨[], rfl, .nil⟩
  | _, _, @RpE.cons _ _ e kv v n es k d kvs h1 h2 h3 h4 h5 h6 t, tk => by
    obtain ⟨hs, xs, hx⟩ := tk (k, d) (by simp)
    have hx' : k = .tup xs := hx
    obtain ⟨ys, e2, h⟩ := RpE.xr t fun p hp => tk p (by simp [hp])
    obtain ⟨a, ha⟩ : ∃ a, kv = V.ref a := by
      rw [hx'] at h2
      cases h2
      exact ⟨_, rfl⟩
    subst ha
    have hk : e.key = .ref a := h1
    refine ⟨(n, a, e.val) :: ys, ?_, .cons h2 h3 (nk_depth hs h3) h5 h6 h⟩
    rw [List.map_cons, ← e2]
    congr 1
    show e = ⟨n.hash c.w, .ref a, e.val⟩
    rw [← h4, ← hk]
theorem XR.rpe {c : Cn} {H : Hp} : ∀ {xs : List (NestedKey × Addr × Value)} {kvs : List (D × D)}, XR c H xs kvs → RpE c H (xs.map (entryOfKey (nestedKind c.P c.w))) kvs
  | _, _, .nil => .nil
  | _, _, .cons h1 h2 h3 h4 h5 t => .cons (e := entryOfKey (nestedKind c.P c.w) (_, _, _)) (kv := .ref _) (show RelV (V.ref _) (Value.ref _) from rfl) h1 h2 rfl h4 h5 (XR.rpe t)
theorem XR.keys {c : Cn} {H : Hp} : ∀ {xs : List (NestedKey × Addr × Value)} {kvs : List (D × D)}, XR c H xs kvs → kvs.map (fun p => nk p.1) = (xs.map (·.1)).map some
  | _, _, .nil => rfl
  | _, _, .cons h1 h2 h3 h4 h5 t => by
    rw [List.map_cons, List.map_cons, List.map_cons, XR.keys t]
    show nk _ :: _ = _
    rw [h2]
theorem XR.length {c : Cn} {H : Hp} : ∀ {xs : List (NestedKey × Addr × Value)} {kvs : List (D × D)}, XR c H xs kvs → xs.length = kvs.length
  | _, _, .nil => rfl
  | _, _, .cons _ _ _ _ _ t => by rw [List.length_cons, List.length_cons, XR.length t]
/-- what stands under a key -/
def dfind (kvs : List (D × D)) (n : NestedKey) : Option D := (kvs.find? fun p => decide (nk p.1 = some n)).map (·.2)
def dput (kvs : List (D × D)) (k : D) (n : NestedKey) (d : D) : List (D × D) := if (dfind kvs n).isSome then kvs.map (fun p => if nk p.1 = some n then (p.1, d) else p) else kvs ++ [(k, d)]
theorem XR.find {c : Cn} {H : Hp} {n : NestedKey} : ∀ {xs : List (NestedKey × Addr × Value)} {kvs : List (D × D)}, XR c H xs kvs →
    (dfind kvs n = none ∧ atKey xs n = none) ∨ ∃ d p v, dfind kvs n = some d ∧ atKey xs n = some p ∧ RelV v p.2 ∧ Rp c H v d
  | _, _, .nil => .inl ⟨rfl, rfl⟩
  | _, _, @XR.cons _ _ m a u v k d xs kvs h1 h2 h3 h4 h5 t => by
    by_cases e : m = n
    · subst e
      refine .inr ⟨d, (a, u), v, ?_, ?_, h4, h5⟩
      · unfold dfind
        rw [List.find?_cons_of_pos (by simpa using h2)]
        rfl
      · unfold atKey
        rw [List.find?_cons_of_pos (by simp)]
        rfl
    · have e1 : dfind ((k, d) :: kvs) n = dfind kvs n := by
        unfold dfind
        rw [List.find?_cons_of_neg (by simp only [decide_eq_true_eq]; rw [h2]; exact fun z => e (Option.some.inj z))]
      have e2 : atKey ((m, a, u) :: xs) n = atKey xs n := by
        unfold atKey
        rw [List.find?_cons_of_neg (by simpa using e)]
      rw [e1, e2]
      exact XR.find t
theorem XR.append {c : Cn} {H : Hp} : ∀ {xs ys : List (NestedKey × Addr × Value)} {kvs lvs : List (D × D)}, XR c H xs kvs → XR c H ys lvs → XR c H (xs ++ ys) (kvs ++ lvs)
  | _, _, _, _, .nil, s => s
  | _, _, _, _, .cons h1 h2 h3 h4 h5 t, s => .cons h1 h2 h3 h4 h5 (XR.append t s)
theorem XR.put {c : Cn} {H : Hp} {n : NestedKey} {a : Addr} {u : Value} {v : V} {k d : D} {xs : List (NestedKey × Addr × Value)} {kvs : List (D × D)} (x : XR c H xs kvs) (hk : Rp c H (.ref a) k) (hn : nk k = some n) (hz : n.depth ≤ 8) (r : RelV v u) (hd : Rp c H v d) :
    XR c H (storedH xs n a u) (dput kvs k n d) := by
  have mp : ∀ {xs : List (NestedKey × Addr × Value)} {kvs : List (D × D)}, XR c H xs kvs → XR c H (xs.map (putAt n u)) (kvs.map fun p => if nk p.1 = some n then (p.1, d) else p) := by
    intro xs kvs x
    induction x with
    | nil => exact .nil
    | @cons m b w y k' d' xs kvs h1 h2 h3 h4 h5 t ih =>
      rw [List.map_cons, List.map_cons]
      by_cases e : m = n
      · subst e
        rw [if_pos h2, putAt, if_pos rfl]
        exact .cons h1 h2 h3 r hd ih
      · rw [if_neg (by rw [h2]; exact fun z => e (Option.some.inj z)), putAt, if_neg e]
        exact .cons h1 h2 h3 h4 h5 ih
  rcases x.find (n := n) with ⟨h1, h2⟩ | ⟨d', p, v', h1, h2, _, _⟩
  · unfold storedH dput
    rw [h1, h2, if_neg (by simp), if_neg (by simp)]
    exact x.append (.cons hk hn hz r hd .nil)
  · unfold storedH dput
    rw [h1, h2]
    simp only [Option.isSome_some, if_true]
    exact mp x

section
variable {X : Cx} {pins : List (Addr × Obj)} {σ : L2.St} {H : Hp} {s : Shared}
theorem Inv.dictAt {Hs : Hp} {d : Addr} {o : Obj} {es : List DictEntry} {kvs : List (D × D)} (I : Inv X pins σ H s) (hs : Same Hs H) (hd : H d = some (.ext (DAt d o))) (fx : DFx d o es) (re : RpE (cn X) Hs es kvs) (nd : (kvs.map fun p => nk p.1).Nodup) (tk : tupK kvs) :
    ∃ xs, s.heap.DictOfH (nestedKind X.prog X.w) d xs ∧ es = xs.map (entryOfKey (nestedKind X.prog X.w)) ∧ XR (cn X) Hs xs kvs := by
  obtain ⟨xs, e, x⟩ := re.xr tk
  obtain ⟨ep, hdt⟩ := fx.dt
  refine ⟨xs, ⟨o, es.toArray, ep, Inv.dat I hd, fx.ex, hdt, by simpa using e, ?_, ?_⟩, e, x⟩
  · clear nd tk re e
    induction x with
    | nil => simp
    | cons h1 h2 h3 h4 h5 t ih =>
      intro y hy
      rcases List.mem_cons.mp hy with rfl | hy
      · exact ⟨Rp.nest I (h1.same hs) h2 rfl, h3⟩
      · exact ih y hy
  · have := x.keys
    rw [this] at nd
    exact List.Pairwise.of_map some (fun a b h e => h (by rw [e])) nd

theorem DictOfH.parts {knd : HeapKind X.prog X.w NestedKey} {h : Heap} {d : Addr} {xs : List (NestedKey × Addr × Value)} (m : h.DictOfH knd d xs) : ∃ o, h.get? d = some o ∧ o.ExactDict ∧ ∃ ep, o.data = .dict (xs.map (entryOfKey knd)).toArray ep := by
  obtain ⟨o, es, ep, ho, hx, hd, he, _, _⟩ := m
  exact ⟨o, ho, hx, ep, by rw [hd, ← he]⟩
theorem ext_ok {h : Heap} {d : Addr} {o : Obj} (e : h.get? d = some o) : ObjOk X.prog X.w H h d (.ext (DAt d o)) := ⟨e, ⟨o, e⟩, fun _ _ a b => b o a⟩
theorem mut_ext {φ : Heap → Prop} : Mut (some (.ext φ)) := trivial

/-! ### d.get(k, x), d[k] -/
abbrev kroom (X : Cx) : Prop := X.A.units + 66 < cLine
theorem kr {A : Around} {P : Program} {w : World} (h : A.units + 66 < cLine) : (nestedKind P w).room A.in1 := by
  show A.units + 1 + 8 < cLine
  omega
theorem dv_get {Hs : Hp} {d : Addr} {o : Obj} {es : List DictEntry} {kvs : List (D × D)} {kv xv : V} {k x : D} {n : NestedKey} {ku xu : Value} {Q : Value → Shared → Prop} {E : Value → Shared → Prop} (hu : kroom X) (I : Inv X pins σ H s) (hs : Same Hs H) (hd : H d = some (.ext (DAt d o))) (fx : DFx d o es) (re : RpE (cn X) Hs es kvs) (nd : (kvs.map fun p => nk p.1).Nodup) (tk : tupK kvs)
    (rk : Rp (cn X) Hs kv k) (hk : shp 8 k = true) (hkt : ∃ xs, k = .tup xs) (hn : nk k = some n) (ru : RelV kv ku) (rx : Rp (cn X) Hs xv x) (rux : RelV xv xu) (h : ∀ v u tk, RelV v u → Rp (cn X) Hs v ((dfind kvs n).getD x) → Q u { s with toks := tk }) :
    wpAny (model X.prog X.w) X.A (call (.builtin "dict.get") [.ref d, ku, xu]) Q E s := by
  obtain ⟨xs, hm, _, xr⟩ := Inv.dictAt I hs hd fx re nd tk
  obtain ⟨zs, rfl⟩ := hkt
  cases rk with
  | @tup a vs _ z hq ra =>
    obtain rfl : ku = Value.ref a := ru
    have hkey : (nestedKind X.prog X.w).is s.heap n a := ⟨Rp.nest I (Rp.tup z (SqT_same hs hq) (ra.same hs)) hn rfl, nk_depth hk hn⟩
    refine getOr_keyed (kr hu) hkey fx.ns ⟨xs, hm, rfl⟩ ?_
    rw [valueAt_pairsH]
    rcases xr.find (n := n) with ⟨h1, h2⟩ | ⟨d', p, v, h1, h2, h3, h4⟩
    · rw [h2]
      rw [h1] at h
      exact h xv xu _ rux rx
    · rw [h2]
      rw [h1] at h
      exact h v p.2 _ h3 h4
theorem dv_getItem {Hs : Hp} {d : Addr} {o : Obj} {es : List DictEntry} {kvs : List (D × D)} {kv : V} {k x : D} {n : NestedKey} {ku : Value} {Q : Value → Shared → Prop} {E : Value → Shared → Prop} (hu : kroom X) (I : Inv X pins σ H s) (hs : Same Hs H) (hd : H d = some (.ext (DAt d o))) (fx : DFx d o es) (re : RpE (cn X) Hs es kvs) (nd : (kvs.map fun p => nk p.1).Nodup) (tk : tupK kvs)
    (rk : Rp (cn X) Hs kv k) (hk : shp 8 k = true) (hkt : ∃ xs, k = .tup xs) (hn : nk k = some n) (ru : RelV kv ku) (hf : dfind kvs n = some x) (h : ∀ v u tk, RelV v u → Rp (cn X) Hs v x → Q u { s with toks := tk }) :
    wpAny (model X.prog X.w) X.A (getItem (.ref d) ku) Q E s := by
  obtain ⟨xs, hm, _, xr⟩ := Inv.dictAt I hs hd fx re nd tk
  obtain ⟨zs, rfl⟩ := hkt
  cases rk with
  | @tup a vs _ z hq ra =>
    obtain rfl : ku = Value.ref a := ru
    have hkey : (nestedKind X.prog X.w).is s.heap n a := ⟨Rp.nest I (Rp.tup z (SqT_same hs hq) (ra.same hs)) hn rfl, nk_depth hk hn⟩
    rcases xr.find (n := n) with ⟨h1, h2⟩ | ⟨d', p, v, h1, h2, h3, h4⟩
    · rw [h1] at hf; cases hf
    · rw [h1] at hf
      cases hf
      exact wpAny_getItem_heap (kr hu) hkey hm h2 (h v p.2 _ h3 h4)
theorem dv_setItem {Hs : Hp} {d : Addr} {o : Obj} {es : List DictEntry} {kvs : List (D × D)} {kv xv : V} {k x : D} {n : NestedKey} {ku xu : Value} {Q : Unit → Shared → Prop} {E : Value → Shared → Prop} (hu : kroom X) (I : Inv X pins σ H s) (hs : Same Hs H) (hd : H d = some (.ext (DAt d o))) (fx : DFx d o es) (re : RpE (cn X) Hs es kvs) (nd : (kvs.map fun p => nk p.1).Nodup) (tk : tupK kvs)
    (rk : Rp (cn X) Hs kv k) (hk : shp 8 k = true) (hkt : ∃ xs, k = .tup xs) (hn : nk k = some n) (ru : RelV kv ku) (rx : Rp (cn X) Hs xv x) (rux : RelV xv xu) (hsz : kvs.length < sizeLine)
    (h : ∀ o' es' s', Inv X pins σ (upd H d (.ext (DAt d o'))) s' → DFx d o' es' → RpE (cn X) Hs es' (dput kvs k n x) → ((dput kvs k n x).map fun p => nk p.1).Nodup → Q () s') :
    wpAny (model X.prog X.w) X.A (setItem (.ref d) ku xu) Q E s := by
  obtain ⟨xs, hm, _, xr⟩ := Inv.dictAt I hs hd fx re nd tk
  obtain ⟨zs, rfl⟩ := hkt
  cases rk with
  | @tup a vs _ z hq ra =>
    obtain rfl : ku = Value.ref a := ru
    have hkey : (nestedKind X.prog X.w).is s.heap n a := ⟨Rp.nest I (Rp.tup z (SqT_same hs hq) (ra.same hs)) hn rfl, nk_depth hk hn⟩
    have hl := xr.length
    refine wpAny_setItem_heap (hsz := by omega) (kr hu) hkey hm fun h' hm' sb => ?_
    have xr' := xr.put (.tup z hq ra) hn (nk_depth hk hn) rux rx
    obtain ⟨o', ho', hex', ep', hdt'⟩ := DictOfH.parts hm'
    obtain ⟨_, _, _, _, _, _, _, _, hnd⟩ := id hm'
    refine h o' _ _ (I.write (t' := s.toks + (nestedKind X.prog X.w).draws n) (x := d) (e := d) (o := .ext (DAt d o')) (by rw [hd]; exact mut_ext) (.inl rfl) (fun b u hb e => (sb.2 b hb).trans e) ⟨o', ho'⟩ (ext_ok ho')) ⟨hex', ⟨ep', hdt'⟩, fx.ns, ?_⟩ xr'.rpe ?_
    · rw [List.length_map, xr'.length]
      unfold dput
      split
      · rw [List.length_map]; omega
      · rw [List.length_append, List.length_singleton]; omega
    · rw [xr'.keys]
      exact hnd.map some fun a b q e => q (Option.some.inj e)
end
end Dv

set_option Elab.async false
set_option linter.all false
set_option maxRecDepth 100000
/-! Dicts: the rules. -/
namespace Dv
open PySem L2

/-- x is of the built-in type T, by the state -/
def TyS (X : Cx) (T : String) (x : V) (H : Hp) : Prop := ∀ (pins : List (Addr × Obj)) (σ : L2.St) (s : Shared) (v : Value), Inv X pins σ H s → RelV x v → s.TypeIs v T ∧ ∀ a, v = .ref a → ∃ ob, s.heap.get? a = some ob ∧ ob.dict = none
def tBT (X : Cx) (T : String) (r : V → List V → Hp → VK → Prop) (to : TE) (t : TA) : TE := fun σ H Q => to σ H fun x H1 => TyS X T x H1 ∧ t σ H1 fun xs H2 => r x xs H2 Q
open PySem.Spec PyProof.Rows in
theorem pe_bmT {X : Cx} {o e : Expr} {es : List Expr} {to : TE} {t : TA} {name : Str} {apos cpos : Pos} {T id : String} {r : V → List V → Hp → VK → Prop} (pa : PlainAttrs T) (slot : PySem.Slot T name id) (hty : typeOf (.builtin id) = pure (.type "method_descriptor")) (hm : MtR X id r) (ho : PE X o to) (ha : PA X (e :: es) t)
    (hbase : attributeBase o name X.env (eval o X.env) = eval o X.env := by rfl)
    (hfew : ((backTo cpos (starEach (e :: es) X.env)).all (fun x => !x.1) && (backToKw cpos (keywordEach [] X.env)).all (fun x => x.1.isSome)
      && decide ((e :: es).length + ([] : List Keyword).length + (if ([] : List Keyword).isEmpty then 0 else 1) < 30)) = true := by rfl)
    (hline : (apos.endLine == cpos.line) = true := by rfl) (hs : starEach (e :: es) X.env = (false, eval e X.env) :: starEach es X.env := by rfl) (hplain : (backTo cpos (starEach es X.env)).any (·.1) = false := by rfl) :
    PE X (.Call (.Attribute o name apos) (e :: es) [] cpos) (tBT X T r to t) := by
  refine ⟨fun pins s σ H Q I h => ?_⟩
  refine wpAny_Call_method_late hbase hfew hline rfl (thn (ho.run pins s σ H _ I h) fun v s1 ⟨x, H1, I1, r1, ty, q1⟩ => ?_)
  obtain ⟨h1, h2⟩ := ty pins σ s1 v I1 r1
  refine ⟨T, id, pa, slot, hty, h1, h2, ?_⟩
  have hA := ha.run cpos pins s1 σ H1 _ I1 q1
  rw [hs] at hA ⊢
  refine Calls.callWith_builtin (by show (false || (backTo cpos (starEach es X.env)).any (·.1)) = false; rw [hplain] <;> rfl) (Calls.evalArgs_plain ?_)
  exact thn hA fun us s2 ⟨vs, H2, I2, r2, q2⟩ => hm pins s2 σ H2 x vs v us Q I2 r1 r2 q2
theorem tyS_dict {X : Cx} {H : Hp} {d : Addr} {o : Obj} {es : List DictEntry} (hd : H d = some (.ext (DAt d o))) (fx : DFx d o es) : TyS X "dict" (.ref d) H := fun pins σ s v I r => by
  obtain rfl : v = Value.ref d := r
  refine ⟨⟨o, Inv.dat I hd, fx.ex.1⟩, fun a e => ?_⟩
  cases e
  exact ⟨o, Inv.dat I hd, fx.ex.2.1⟩

section
variable {X : Cx}
/-- d.get(k, x) by values -/
def rGetX (X : Cx) : V → List V → Hp → VK → Prop := fun x xs H Q => ∃ (Hs : Hp) (d : Addr) (o : Obj) (es : List DictEntry) (kvs : List (D × D)) (kv xv : V) (k y : D) (n : NestedKey), x = .ref d ∧ xs = [kv, xv] ∧ Same Hs H ∧ H d = some (.ext (DAt d o)) ∧ DFx d o es ∧ RpE (cn X) Hs es kvs ∧ (kvs.map fun p => nk p.1).Nodup ∧ tupK kvs ∧
  Rp (cn X) Hs kv k ∧ shp 8 k = true ∧ (∃ xs, k = .tup xs) ∧ nk k = some n ∧ Rp (cn X) Hs xv y ∧ ∀ v, Rp (cn X) Hs v ((dfind kvs n).getD y) → Q v H
theorem mt_getX (hu : kroom X) : MtR X "dict.get" (rGetX X) := by
  intro pins s σ H x xs v us Q I rx rs h
  obtain ⟨Hs, d, o, es, kvs, kv, xv, k, y, n, rfl, rfl, hs, hd, fx, re, nd, tk, rk, hk, hkt, hn, ry, q⟩ := h
  obtain rfl : v = Value.ref d := rx
  obtain ⟨u1, u2, rfl, r1, r2⟩ := vals2 rs
  exact dv_get hu I hs hd fx re nd tk rk hk hkt hn r1 ry r2 fun v u tk' rv rp => ⟨v, H, I.tok tk', rv, q v rp⟩
/-- d[k] by values -/
def rIxX (X : Cx) : R2 := fun x kv H Q => ∃ (Hs : Hp) (d : Addr) (o : Obj) (es : List DictEntry) (kvs : List (D × D)) (k y : D) (n : NestedKey), x = .ref d ∧ Same Hs H ∧ H d = some (.ext (DAt d o)) ∧ DFx d o es ∧ RpE (cn X) Hs es kvs ∧ (kvs.map fun p => nk p.1).Nodup ∧ tupK kvs ∧
  Rp (cn X) Hs kv k ∧ shp 8 k = true ∧ (∃ xs, k = .tup xs) ∧ nk k = some n ∧ dfind kvs n = some y ∧ ∀ v, Rp (cn X) Hs v y → Q v H
theorem ix_dictX (hu : kroom X) : IxR X (rIxX X) := by
  intro value slice pins s σ H x y v u Q I rx ry h hsub
  obtain ⟨Hs, d, o, es, kvs, k, z, n, rfl, hs, hd, fx, re, nd, tk, rk, hk, hkt, hn, hf, q⟩ := h
  obtain rfl : v = Value.ref d := rx
  refine PyProof.Rows.tail_any (ops := [.ref d, u]) (T := "dict") ⟨o, Inv.dat I hd, fx.ex.1⟩ PySem.F.slot_dict_getitem.lookup ?_ hsub
  exact dv_getItem hu I hs hd fx re nd tk rk hk hkt hn ry hf fun v u tk' rv rp => ⟨v, H, I.tok tk', rv, q v rp⟩
theorem xd_dict (hu : kroom X) : IxD X (fun d e R => ∃ kvs n y, d = .dic kvs ∧ tupK kvs ∧ shp 8 e = true ∧ (∃ xs, e = .tup xs) ∧ nk e = some n ∧ dfind kvs n = some y ∧ R y) := by
  refine ⟨_, ix_dictX hu, fun Hs H x y d e R Q hs rx ry ⟨kvs, n, z, hd, tk, hk, hkt, hn, hf, h⟩ k => ?_⟩
  subst hd
  cases rx with
  | @dic a o es _ hH fx re nd => exact ⟨Hs, a, o, es, kvs, e, z, n, rfl, hs, hs _ _ hH, fx, re, nd, tk, ry, hk, hkt, hn, hf, fun v rv => k _ Hs H _ h (Lay.refl hs) rv⟩
end

section
variable {W : Wld} {B : Bs W} {X : Cx} {e : Expr} {es : List Expr} {te : TD W} {t : TDA W} {pos cpos apos : Pos}
/-- e.get(k, x), e a dict that is data -/
def getP (kvs : List (D × D)) (ds : List D) (R : D → Prop) : Prop := ∃ k y n, ds = [k, y] ∧ tupK kvs ∧ shp 8 k = true ∧ (∃ xs, k = .tup xs) ∧ nk k = some n ∧ R ((dfind kvs n).getD y)
def dGet (te : TD W) (t : TDA W) : TD W := fun ρ s Q => te ρ s fun d s1 => ∃ kvs, d = .dic kvs ∧ t ρ s1 fun ds s2 => getP kvs ds fun v => Q v s2
theorem de_get {o a b : Expr} (hu : kroom X) (ho : DE W B X o te) (ha : DA W B X [a, b] t)
    (hbase : attributeBase o "get" X.env (eval o X.env) = eval o X.env := by rfl)
    (hfew : ((backTo cpos (starEach [a, b] X.env)).all (fun x => !x.1) && (backToKw cpos (keywordEach [] X.env)).all (fun x => x.1.isSome)
      && decide ([a, b].length + ([] : List Keyword).length + (if ([] : List Keyword).isEmpty then 0 else 1) < 30)) = true := by rfl)
    (hline : (apos.endLine == cpos.line) = true := by rfl) (hs : starEach [a, b] X.env = (false, eval a X.env) :: starEach [b] X.env := by rfl) (hplain : (backTo cpos (starEach [b] X.env)).any (·.1) = false := by rfl) :
    DE W B X (.Call (.Attribute o "get" apos) [a, b] [] cpos) (dGet te t) := by
  refine ⟨pe_imp (pe_bmT PySem.F.plainAttrs_dict PySem.F.slot_dict_get PySem.F.type_dict_get (mt_getX hu) ho.run ha.run hbase hfew hline hs hplain) fun σ H Q h => ?_⟩
  obtain ⟨Hs, ρ, s, R, S, h1, k⟩ := h
  refine ⟨Hs, ρ, s, _, S, h1, fun d s1 Hs1 H1 v hR g1 rv => ?_⟩
  obtain ⟨kvs, rfl, hR⟩ := hR
  cases rv with
  | @dic a o es _ hH fx re nd =>
    refine ⟨tyS_dict (g1.sub _ _ hH) fx, Hs1, ρ, s1, _, S.step g1, hR, fun ds s2 Hs2 H2 vs hR2 g2 rs => ?_⟩
    obtain ⟨kk, y, n, rfl, tk, hk, hkt, hn, hq⟩ := hR2
    cases rs with
    | cons ra rs =>
      cases rs with
      | cons rb rs =>
        cases rs
        exact ⟨Hs2, a, o, es, kvs, _, _, kk, y, n, rfl, rfl, g2.sub, g2.sub _ _ (g2.fz _ _ hH), fx, re.same g2.fz, nd, tk, ra, hk, hkt, hn, rb, fun v rv => k _ s2 Hs2 H2 v hq (g1.trans g2) rv⟩
/-- x.get(k, y), x a dict of one's own -/
def dGetO (i : Nat) (t : TDA W) : TD W := fun ρ s Q => ∃ kvs, ρ[i]? = some (.own (.dic kvs)) ∧ t ρ s fun ds s2 => getP kvs ds fun v => Q v s2
theorem de_getO {x : Str} {p1 : Pos} {a b : Expr} {i : Nat} (hu : kroom X) (ho : PE X (.Name x p1) (tVar i)) (ha : DA W B X [a, b] t)
    (hbase : attributeBase (.Name x p1) "get" X.env (eval (.Name x p1) X.env) = eval (.Name x p1) X.env := by rfl)
    (hfew : ((backTo cpos (starEach [a, b] X.env)).all (fun x => !x.1) && (backToKw cpos (keywordEach [] X.env)).all (fun x => x.1.isSome)
      && decide ([a, b].length + ([] : List Keyword).length + (if ([] : List Keyword).isEmpty then 0 else 1) < 30)) = true := by rfl)
    (hline : (apos.endLine == cpos.line) = true := by rfl) (hs : starEach [a, b] X.env = (false, eval a X.env) :: starEach [b] X.env := by rfl) (hplain : (backTo cpos (starEach [b] X.env)).any (·.1) = false := by rfl) :
    DE W B X (.Call (.Attribute (.Name x p1) "get" apos) [a, b] [] cpos) (dGetO i t) := by
  refine ⟨pe_imp (pe_bmT PySem.F.plainAttrs_dict PySem.F.slot_dict_get PySem.F.type_dict_get (mt_getX hu) ho ha.run hbase hfew hline hs hplain) fun σ H Q h => ?_⟩
  obtain ⟨Hs, ρ, s, R, S, ⟨kvs, e1, h1⟩, k⟩ := h
  obtain ⟨q, o, a1, a2, a3, a4, a5, a6⟩ := S.ow i _ e1
  cases a3 with
  | @dic o es _ fx re nd =>
    refine ⟨_, a1, tyS_dict a2 fx, Hs, ρ, s, _, S, h1, fun ds s2 Hs2 H2 vs hR2 g2 rs => ?_⟩
    obtain ⟨kk, y, n, rfl, tk, hk, hkt, hn, hq⟩ := hR2
    cases rs with
    | cons ra rs =>
      cases rs with
      | cons rb rs =>
        cases rs
        exact ⟨Hs2, q, o, es, kvs, _, _, kk, y, n, rfl, rfl, g2.sub, g2.ext q _ a2 a5, fx, re.same g2.fz, nd, tk, ra, hk, hkt, hn, rb, fun v rv => k _ s2 Hs2 H2 v hq g2 rv⟩
/-- x = {} -/
def dNewD (i : Nat) : TDS W := fun E ρ s => E.nx (ρ.set i (.own (.dic []))) s
theorem pe_dnewX : PE X (.Dict [] [] pos) (fun _ H Q => ∀ p o, H p = none → DFx p o [] → Q (.ref p) (upd H p (.ext (DAt p o)))) := ⟨fun pins s σ H Q I h => by
  have e : (s.heap.push { cls := .type "dict", data := .dict #[] }).get? s.heap.objs.size = some { cls := .type "dict", data := .dict #[] } := Heap.get?_push_size _ rfl
  exact PySem.wpAny_Dict_empty ⟨.ref s.heap.objs.size, _, I.laid (a := s.heap.objs.size) (o := .ext (DAt s.heap.objs.size _)) (t' := s.toks) (fun _ _ q => Heap.get?_push_of_some _ q) (Nat.le_refl _) (ext_ok e), rfl, h _ _ (I.hok.fresh (Nat.le_refl _))
    ⟨⟨rfl, rfl, rfl⟩, ⟨0, rfl⟩, beq_eq_false_iff_ne.mpr (Ne.symm (Nat.ne_of_lt I.big)), Nat.zero_le _⟩⟩⟩
theorem ds_newD {i : Nat} {x : Str} {pos' p2 : Pos} (hN : X.N.Nodup) (hi : X.N[i]? = some x) (hx : Loc X.env.scope x) (hs : swapsWith (.Dict [] [] p2) (some (.Name x pos')) pos.line X.env = pure false := by rfl) (hf : X.fn x = true ∨ X.env.scope.names.lookup x = some .local := by first | exact .inl rfl | exact .inr rfl | assumption) :
    DS W B X (.Assign [.Name x pos'] (.Dict [] [] p2) pos) (dNewD i) := ⟨ps_imp (ps_set hN hi hx pe_dnewX hs hf) fun D σ H ⟨Hs, ρ, s, E, S, h1, k⟩ => fun p o hp fx => by
  have g : Go W s Hs H s Hs (upd H p (.ext (DAt p o))) := (Lay.mut S.sub hp).go S.rel
  have S1 := S.step g
  exact k.nx _ s Hs _ _ h1 (Same.refl _) (S1.setOwn upd_same (.dic fx .nil (by simp)) (S.sub.free hp) (fun z => W.there S.rel z hp) (free_of S.go.th hp) fun j b' _ ej => S.fresh hp j b' ej)⟩
/-- x[k] = v, x a dict of one's own -/
def dPutO (i : Nat) (te tk : TD W) : TDS W := fun E ρ s => te ρ s fun v s1 => ∃ kvs, ρ[i]? = some (.own (.dic kvs)) ∧ tk ρ s1 fun k s2 => ∃ n, tupK kvs ∧ shp 8 k = true ∧ (∃ xs, k = .tup xs) ∧ nk k = some n ∧ kvs.length < sizeLine ∧ E.nx (ρ.set i (.own (.dic (dput kvs k n v)))) s2
def rSetX (X : Cx) : TSet := fun o i v H Q => ∃ (Hs : Hp) (d : Addr) (ob : Obj) (es : List DictEntry) (kvs : List (D × D)) (k y : D) (n : NestedKey), o = .ref d ∧ Same Hs H ∧ H d = some (.ext (DAt d ob)) ∧ DFx d ob es ∧ RpE (cn X) Hs es kvs ∧ (kvs.map fun p => nk p.1).Nodup ∧ tupK kvs ∧
  Rp (cn X) Hs i k ∧ shp 8 k = true ∧ (∃ xs, k = .tup xs) ∧ nk k = some n ∧ Rp (cn X) Hs v y ∧ kvs.length < sizeLine ∧ ∀ o' es', DFx d o' es' → RpE (cn X) Hs es' (dput kvs k n y) → ((dput kvs k n y).map fun p => nk p.1).Nodup → Q (upd H d (.ext (DAt d o')))
theorem set_dictX (hu : kroom X) : PSet X (rSetX X) := by
  intro pins s σ H o i v ov iv u Q I ro ri rv h
  obtain ⟨Hs, d, ob, es, kvs, k, y, n, rfl, hs, hd, fx, re, nd, tk, rk, hk, hkt, hn, ry, hz, q⟩ := h
  obtain rfl : ov = Value.ref d := ro
  exact dv_setItem hu I hs hd fx re nd tk rk hk hkt hn ri ry rv hz fun o' es' s' I' fx' re' nd' => ⟨_, I', q o' es' fx' re' nd'⟩
theorem ds_putO {i : Nat} {x : Str} {p1 p2 : Pos} {key : Expr} {tk : TD W} (hu : kroom X) (hv : PE X (.Name x p1) (tVar i)) (he : DE W B X e te) (hk : DE W B X key tk)
    (ha : ∀ v, assign (.Subscript (.Name x p1) key p2) X.env v = (do
      let ov ← holding [v] (eval (.Name x p1) X.env)
      let iv ← holding [v, ov] (eval key X.env)
      standAt p2
      holding [v, ov, iv] (setItem ov iv v)
      release [v, ov, iv] []) := by intro _; rfl)
    (hs : swapsWithSole [.Subscript (.Name x p1) key p2] e pos.line X.env = pure false := by rfl) (hw : swappedStores [.Subscript (.Name x p1) key p2] e X.env = pure none := by rfl)
    (h1 : (assignEach [.Subscript (.Name x p1) key p2] X.env).map (·.2) = [assign (.Subscript (.Name x p1) key p2) X.env] := by rfl) :
    DS W B X (.Assign [.Subscript (.Name x p1) key p2] e pos) (dPutO i te tk) := by
  refine ⟨ps_imp (ps_asg he.run (pg_sub hv hk.run (set_dictX hu) ha) hs hw h1) fun D σ H ⟨Hs, ρ, s, E, S, h1, k⟩ => ?_⟩
  refine ⟨Hs, ρ, s, _, S, h1, fun d s1 Hs1 H1 v hR g1 rv => ?_⟩
  obtain ⟨kvs, e1, hR⟩ := hR
  have S1 := S.step g1
  obtain ⟨q, o, a1, a2, a3, a4, a5, a6⟩ := S1.ow i _ e1
  refine ⟨_, a1, Hs1, ρ, s1, _, S1, hR, fun kd s2 Hs2 H2 kv hR2 g2 rk => ?_⟩
  obtain ⟨n, tk, hk, hkt, hn, hz, hq⟩ := hR2
  have S2 := S1.step g2
  obtain ⟨q', o', b1, b2, b3, b4, b5, b6⟩ := S2.ow i _ e1
  rw [a1] at b1
  cases b1
  cases b3 with
  | @dic o es _ fx re nd =>
    exact ⟨Hs2, q, o, es, kvs, kd, d, n, rfl, S2.sub, b2, fx, re, nd, tk, rk, hk, hkt, hn, rv.same g2.fz, hz, fun o' es' fx' re' nd' => k.nx _ s2 Hs2 _ _ hq (g1.fz.trans g2.fz) (S2.mut e1 a1 (.dic fx' re' nd'))⟩
end
end Dv

set_option Elab.async false
set_option linter.all false
set_option maxRecDepth 100000
/-! dict(pairs), list(d), x.remove(y), x in y of one's own, two clauses. -/
namespace Dv
open PySem L2

/-! ### dict(pairs) -/
def pairD (p : D × D) : D := .tup [p.1, p.2]
def dmerge (kvs ps : List (D × D)) : List (D × D) := ps.foldl (fun acc p => match nk p.1 with | some n => dput acc p.1 n p.2 | none => acc) kvs
inductive PLs (h : Heap) : List Value → List (NestedKey × Addr × Value) → Prop
  | nil : PLs h [] []
  | cons {T a : Addr} {n : NestedKey} {u : Value} {its : List Value} {xs : List (NestedKey × Addr × Value)} : h.IsTuple T #[.ref a, u] → PLs h its xs → PLs h (.ref T :: its) ((n, a, u) :: xs)
theorem PLs.length {h : Heap} : ∀ {its : List Value} {xs : List (NestedKey × Addr × Value)}, PLs h its xs → its.length = xs.length
  | _, _, .nil => rfl
  | _, _, .cons _ t => by rw [List.length_cons, List.length_cons, PLs.length t]
theorem PLs.get {h : Heap} : ∀ {its : List Value} {xs : List (NestedKey × Addr × Value)} {j : Nat} {n : NestedKey} {a : Addr} {u : Value}, PLs h its xs → xs[j]? = some (n, a, u) → ∃ T, its[j]? = some (.ref T) ∧ h.IsTuple T #[.ref a, u]
  | _, _, _, _, _, _, .nil, e => by simp at e
  | _, _, 0, _, _, _, .cons x _, e => by
    simp at e
    obtain ⟨rfl, rfl, rfl⟩ := e
    exact ⟨_, rfl, x⟩
  | _, _, j + 1, _, _, _, .cons _ t, e => by
    obtain ⟨T, h1, h2⟩ := PLs.get (j := j) t (by simpa using e)
    exact ⟨T, by simpa using h1, h2⟩
section
variable {X : Cx} {pins : List (Addr × Obj)} {σ : L2.St} {H Hs : Hp} {s : Shared}
theorem pl_of (I : Inv X pins σ H s) (hs : Same Hs H) : ∀ {vs : List V} {its : List Value} {ps : List (D × D)}, RpA (cn X) Hs vs (ps.map pairD) → Vals vs its → tupK ps → (∀ p ∈ ps, ∃ n, nk p.1 = some n) → ∃ xs, PLs s.heap its xs ∧ XR (cn X) Hs xs ps := by
  intro vs
  induction vs with
  | nil =>
    intro its ps ra rv tk hk
    cases rv
    cases ps with
    | nil => exact ⟨[], .nil, .nil⟩
    | cons p ps => cases ra
  | cons v vs ih =>
    intro its ps ra rv tk hk
    cases ps with
    | nil => cases ra
    | cons p ps =>
      cases ra with
      | cons r ra =>
        cases rv with
        | cons rv rvs =>
          obtain ⟨hs8, zs, hz⟩ := tk p (by simp)
          obtain ⟨k, d⟩ := p
          have hz' : k = .tup zs := hz
          cases r with
          | @tup a ws _ z hq rw' =>
            obtain rfl : _ = Value.ref a := rv
            cases rw' with
            | cons r1 rw' =>
              cases rw' with
              | cons r2 rw' =>
                cases rw'
                obtain ⟨xs, h1, h2⟩ := ih ra rvs (fun p hp => tk p (by simp [hp])) fun p hp => hk p (by simp [hp])
                obtain ⟨its2, rv2, ht, _⟩ := I.tuple (SqT_same hs hq)
                obtain ⟨u1, u2, rfl, q1, q2⟩ := vals2 rv2
                have : ∃ b, u1 = Value.ref b ∧ Rp (cn X) Hs (V.ref b) k := by
                  rw [hz'] at r1 ⊢
                  cases r1 with
                  | @tup b _ _ z1 hq1 ra1 =>
                    obtain rfl : u1 = Value.ref b := q1
                    exact ⟨b, rfl, .tup z1 hq1 ra1⟩
                obtain ⟨b, rfl, rk⟩ := this
                obtain ⟨n, hn⟩ := hk (k, d) (by simp)
                exact ⟨(n, b, u2) :: xs, .cons (show s.heap.IsTuple a #[Value.ref b, u2] from ht) h1, .cons rk hn (nk_depth hs8 hn) q2 r2 h2⟩
theorem XR.merge {c : Cn} {H : Hp} : ∀ {xs ys : List (NestedKey × Addr × Value)} {kvs ps : List (D × D)}, XR c H ys kvs → XR c H xs ps → XR c H (storedAllH ys xs) (dmerge kvs ps)
  | _, _, _, _, a, .nil => a
  | _, _, _, _, a, .cons h1 h2 h3 h4 h5 t => by
    unfold storedAllH dmerge
    rw [List.foldl_cons, List.foldl_cons]
    simp only [h2]
    exact XR.merge (a.put h1 h2 h3 h4 h5) t
theorem dput_length (kvs : List (D × D)) (k : D) (n : NestedKey) (d : D) : (dput kvs k n d).length ≤ kvs.length + 1 := by
  unfold dput
  split
  · rw [List.length_map]; omega
  · rw [List.length_append, List.length_singleton]
    exact Nat.le_refl _
theorem dmerge_length : ∀ (ps kvs : List (D × D)), (dmerge kvs ps).length ≤ kvs.length + ps.length
  | [], kvs => by simp [dmerge]
  | p :: ps, kvs => by
    unfold dmerge
    rw [List.foldl_cons]
    cases h : nk p.1 with
    | none =>
      have := dmerge_length ps kvs
      unfold dmerge at this
      simp only [List.length_cons]
      omega
    | some n =>
      have := dmerge_length ps (dput kvs p.1 n p.2)
      have h2 := dput_length kvs p.1 n p.2
      unfold dmerge at this
      simp only [List.length_cons]
      omega
theorem XR.is (I : Inv X pins σ H s) (hs : Same Hs H) : ∀ {zs : List (NestedKey × Addr × Value)} {ps : List (D × D)}, XR (cn X) Hs zs ps → ∀ x ∈ zs, (nestedKind X.prog X.w).is s.heap x.1 x.2.1
  | _, _, .nil, _, h => by simp at h
  | _, _, .cons h1 h2 h3 _ _ t, y, hy => by
    rcases List.mem_cons.mp hy with rfl | hy
    · exact ⟨Rp.nest I (h1.same hs) h2 rfl, h3⟩
    · exact XR.is I hs t y hy
def rDictX (X : Cx) : List V → Hp → VK → Prop := fun xs H Q => ∃ (Hs : Hp) (a : Addr) (vs : List V) (ps : List (D × D)), xs = [.ref a] ∧ Same Hs H ∧ SqL X.K H a vs ∧ RpA (cn X) Hs vs (ps.map pairD) ∧ tupK ps ∧ (∀ p ∈ ps, ∃ n, nk p.1 = some n) ∧
  ∀ p o es, H p = none → DFx p o es → RpE (cn X) Hs es (dmerge [] ps) → ((dmerge [] ps).map fun q => nk q.1).Nodup → Q (.ref p) (upd H p (.ext (DAt p o)))
theorem call_dictX (hu : kroom X) (hc : X.calm = true) : CallR X (.type "dict") (rDictX X) := by
  intro pins s σ H xs us Q I r h
  obtain ⟨Hs, a, vs, ps, rfl, hs, hq, ra, tk, hk, q⟩ := h
  obtain ⟨u, rfl, ru⟩ := vals1 r
  obtain rfl : u = Value.ref a := ru
  obtain ⟨its, rv, ⟨o, n, ho, hcl, hdn, hdt⟩, hz⟩ := I.list hq
  obtain ⟨zs, pl, xr⟩ := pl_of I hs ra rv tk hk
  have hlen := pl.length
  have hlv := rv.length
  have hlx := xr.length
  have hat : ∀ (j : Nat) (k v : Value), (zs.map fun x => (Value.ref x.2.1, x.2.2))[j]? = some (k, v) → ∃ n b, zs[j]? = some (n, b, v) ∧ k = .ref b := fun j k v e => by
    rw [List.getElem?_map] at e
    cases e2 : zs[j]? with
    | none => rw [e2] at e; cases e
    | some z =>
      rw [e2] at e
      cases e
      exact ⟨z.1, z.2.1, rfl, rfl⟩
  have P := PairArg.list (prog := X.prog) (w := X.w) a its.toArray (fun j => match its[j]? with | some (.ref T) => T | _ => 0) (zs.map fun x => (Value.ref x.2.1, x.2.2))
  have hkeys : ∀ {h' : Heap}, (∀ b ob, s.heap.get? b = some ob → h'.get? b = some ob) → ∀ x ∈ zs, (nestedKind X.prog X.w).is h' x.1 x.2.1 := fun {h'} k x hx => by
    exact nestedKind_stays.stays (fun b o _ _ e _ => k b o e) (XR.is I hs xr x hx)
  refine call_dict_pairsH (knd := nestedKind X.prog X.w) (ps := zs) P (I.ok.hd hc) ?_ ⟨⟨o, n, ho, hcl, hdn, hdt⟩, ?_, fun j k v e => ?_⟩ ⟨by simp, fun i key v e => ?_⟩ (fun h' kk => hkeys fun b ob e => kk b ob (Nat.ne_of_lt (Heap.lt_size e)) (fun z => nomatch z) e) ?_ fun h' tk' hm hk' => ?_
  · show X.A.units + 1 + 1 + 8 < cLine
    have : X.A.units + 66 < cLine := hu
    omega
  · simp [hlen]
  · obtain ⟨n', b, e1, rfl⟩ := hat j k v e
    obtain ⟨T, e2, e3⟩ := pl.get e1
    refine ⟨?_, .inl ?_⟩
    · simp [e2]
    · simpa [e2] using e3
  · obtain ⟨n', b, e1, e2⟩ := hat i key v e
    exact ⟨n', b, e1, e2⟩
  · rw [List.length_map]
    omega
  · obtain ⟨o', ho', hex', ep', hdt'⟩ := DictOfH.parts hm
    have xr' : XR (cn X) Hs (storedAllH [] zs) (dmerge [] ps) := XR.merge .nil xr
    obtain ⟨_, _, _, _, _, _, _, _, hnd⟩ := id hm
    refine ⟨.ref s.heap.objs.size, _, I.laid (t' := tk') (o := .ext (DAt s.heap.objs.size o')) (fun b ob e => hk' b ob (fun z => nomatch z) e) (Nat.le_refl _) (ext_ok ho'), rfl, q _ o' _ (I.hok.fresh (Nat.le_refl _)) ⟨hex', ⟨ep', hdt'⟩, beq_eq_false_iff_ne.mpr (Ne.symm (Nat.ne_of_lt I.big)), ?_⟩ xr'.rpe ?_⟩
    · rw [List.length_map, xr'.length]
      have := dmerge_length ps []
      simp only [List.length_nil, Nat.zero_add] at this
      have hl2 := ra.length
      rw [List.length_map] at hl2
      omega
    · rw [xr'.keys]
      exact hnd.map some fun a b q e => q (Option.some.inj e)
theorem cd_dict (hu : kroom X) (hc : X.calm = true) : CallD X (.type "dict") (fun ds R => ∃ ps, ds = [.lst (ps.map pairD)] ∧ tupK ps ∧ (∀ p ∈ ps, ∃ n, nk p.1 = some n) ∧ R (.dic (dmerge [] ps))) :=
  ⟨_, call_dictX hu hc, fun Hs H vs ds R Q hs ra ⟨ps, e, tk, hk, h⟩ k => by
    subst e
    cases ra with
    | cons r ra =>
      cases ra
      cases r with
      | @lst a vs _ z hq rb =>
        exact ⟨Hs, a, vs, ps, rfl, hs, hs.seq hq, rb, tk, hk, fun p o es hp fx re nd => k _ _ _ _ h (Lay.one hs hp) (.dic upd_same fx (re.same (Same.updR (hs.free hp))) nd)⟩⟩

/-! ### list(d) -/
theorem keys_vals {c : Cn} : ∀ {es : List DictEntry} {kvs : List (D × D)}, RpE c Hs es kvs → ∃ vs, Vals vs (es.map (·.key)) ∧ RpA c Hs vs (kvs.map (·.1))
  | _, _, .nil => ⟨[], .nil, .nil⟩
  | _, _, .cons a b _ _ _ _ t => by
    obtain ⟨vs, h1, h2⟩ := keys_vals t
    exact ⟨_ :: vs, .cons a h1, .cons b h2⟩
theorem call_listX (hc : X.calm = true) : CallR X (.type "list") (fun xs H Q => ∃ (Hs : Hp) (d : Addr) (o : Obj) (es : List DictEntry) (kvs : List (D × D)), xs = [.ref d] ∧ Same Hs H ∧ H d = some (.ext (DAt d o)) ∧ DFx d o es ∧ RpE (cn X) Hs es kvs ∧
    ∀ p vs, H p = none → RpA (cn X) Hs vs (kvs.map (·.1)) → Q (.ref p) (upd H p (.lst vs))) := by
  intro pins s σ H xs us Q I r h
  obtain ⟨Hs, d, o, es, kvs, rfl, hs, hd, fx, re, q⟩ := h
  obtain ⟨u, rfl, ru⟩ := vals1 r
  obtain rfl : u = Value.ref d := ru
  obtain ⟨ep, hdt⟩ := fx.dt
  have hm : s.heap.DictRaw d es.toArray ep := ⟨o, Inv.dat I hd, fx.ex, hdt⟩
  refine PySem.W.kdl_call (KdlSrc.rawDict fx.ns) (I.ok.hd hc) hm (by simpa using fx.sz) fun h' tk' acc c' hk hD hacc => ?_
  obtain ⟨vs, h1, h2⟩ := keys_vals re
  have ea : acc.toList = es.map (·.key) := by
    apply List.ext_getElem?
    intro j
    rw [Array.getElem?_toList]
    by_cases hj : j < acc.size
    · obtain ⟨hi, e⟩ := hacc.2 j acc[j] (Array.getElem?_eq_getElem hj)
      rw [Array.getElem?_eq_getElem hj, e, List.getElem?_map]
      simp only [List.size_toArray] at hi
      rw [List.getElem?_eq_getElem hi]
      simp
    · have hs2 : acc.size = es.toArray.size := hacc.1
      rw [Array.getElem?_eq_none (by omega), List.getElem?_eq_none (by simp at hs2 ⊢; omega)]
  refine ⟨.ref s.heap.objs.size, _, I.laid (t' := tk') (o := .lst vs) hk (Nat.le_refl _) ⟨?_, acc.toList, c', by rw [ea]; exact h1, by simpa using hD⟩, rfl, q _ vs (I.hok.fresh (Nat.le_refl _)) h2⟩
  rw [h1.length, List.length_map]
  exact fx.sz
theorem cd_listD (hc : X.calm = true) : CallD X (.type "list") (fun ds R => ∃ kvs, ds = [.dic kvs] ∧ R (.lst (kvs.map (·.1)))) :=
  ⟨_, call_listX hc, fun Hs H vs ds R Q hs ra ⟨kvs, e, h⟩ k => by
    subst e
    cases ra with
    | cons r ra =>
      cases ra
      cases r with
      | @dic a o es _ hH fx re nd =>
        exact ⟨Hs, a, o, es, kvs, rfl, hs, hs _ _ hH, fx, re, fun p vs hp rv => k _ _ _ _ h (Lay.one hs hp) (.lstN (hs.free hp) (by rw [List.length_map, ← re.length]; exact fx.sz) rv)⟩⟩
end
end Dv

set_option Elab.async false
set_option linter.all false
set_option maxRecDepth 100000
set_option maxHeartbeats 4000000
/-! list.remove of a datum; reading a list of one's own on the way. -/
namespace Dv
open PySem L2 PySem.Spec PyProof.Rows
open AutoSeq1 (wpAny_loadPart')
open MeetsSeq MeetsSeq2 MeetsSeq3 SeqRoads2 SeqAt

/-! ### list.remove -/
theorem rem_loop (l : Addr) (items : Array Value) (n : Nat) (x : Value) (e : Value → Bool) (j : Nat) (hj : j < items.size) (hit : e items[j] = true) (hno : ∀ m (hm : m < items.size), m < j → e items[m] = false) (hz : items.size ≤ sizeLine) (k : Nat) :
    ∀ i : Nat, j - i = k → i ≤ j → Meets (Builtin.«list.remove.loop» ⟨[.ref l, x, rawInt i], []⟩)
      (fun A R s => s.heap.get? l = some { cls := .type "list", dict := none, data := .seq items n, slots := #[] } ∧ (∀ y, y ∈ items → EqAt A.in1 s y x (e y)) ∧
        R (.ok (.ret .none)) { s with heap := s.heap.update l (Obj.mapSeq fun xs => xs.eraseIdxIfInBounds j) }) := by
  have more : (items.eraseIdxIfInBounds j).size ≤ sizeLine + 1 := Nat.le_trans (size_erased items _) (Nat.le_succ_of_le hz)
  induction k with
  | zero =>
    intro i h1 h2 prog w A R s h
    obtain ⟨hp, g, d, tk, os⟩ := s
    obtain ⟨hl, he, h⟩ := h
    obtain rfl : i = j := by omega
    wp_walk using wpAny_loadPart' hl
    rw [show items[((i : Nat) : Int).toNat]? = some items[i] by simp [hj]]
    refine wpAny_bind (he _ (Array.getElem_mem hj) prog w _ _ ?_)
    rw [hit]
    wp_walk using (wpAny_updateSeq hl rfl (hz := hz) (_hz' := more)), wpAny_loadPart' hl
    simpa using h
  | succ k ih =>
    intro i h1 h2 prog w A R s h
    obtain ⟨hp, g, d, tk, os⟩ := s
    obtain ⟨hl, he, h⟩ := h
    have hi : i < items.size := by omega
    wp_walk using wpAny_loadPart' hl
    rw [show items[((i : Nat) : Int).toNat]? = some items[i] by simp [hi]]
    refine wpAny_bind (he _ (Array.getElem_mem hi) prog w _ _ ?_)
    rw [hno i hi (by omega)]
    wp_walk
    rw [show ((i : Int) + 1) = ((i + 1 : Nat) : Int) by push_cast; rfl]
    exact ⟨plainId_quiet plain_remove_loop _, codeAny_builtin entry_remove_loop (by
      rw [Around.under_plainId plain_remove_loop _]
      exact ih (i + 1) (by omega) (by omega) prog w A R _ ⟨hl, he, h⟩)⟩
theorem list_rem (l : Addr) (items : Array Value) (n : Nat) (x : Value) (e : Value → Bool) (j : Nat) (hj : j < items.size) (hit : e items[j] = true) (hno : ∀ m (hm : m < items.size), m < j → e items[m] = false) (hz : items.size ≤ sizeLine) :
    Meets (Builtin.«list.remove» ⟨[.ref l, x], []⟩)
      (fun A R s => s.heap.get? l = some { cls := .type "list", dict := none, data := .seq items n, slots := #[] } ∧ (∀ y, y ∈ items → EqAt A.in1 s y x (e y)) ∧
        R (.ok (.ret .none)) { s with heap := s.heap.update l (Obj.mapSeq fun xs => xs.eraseIdxIfInBounds j) }) := by
  intro prog w A R s h
  obtain ⟨hp, g, d, tk, os⟩ := s
  obtain ⟨hl, he, h⟩ := h
  wp_walk using wpAny_loadPart' hl
  exact ⟨plainId_quiet plain_remove_loop _, codeAny_builtin entry_remove_loop (by
    rw [Around.under_plainId plain_remove_loop _]
    exact rem_loop l items n x e j hj hit hno hz _ 0 rfl (Nat.zero_le _) prog w A R _ ⟨hl, he, h⟩)⟩

section
variable {X : Cx}
/-- the first place of a datum -/
def placeD (d : D) (xs : List D) : Nat := xs.findIdx fun z => eqD z d
def remD (d : D) (xs : List D) : List D := xs.eraseIdx (placeD d xs)
theorem RpA.erase {c : Cn} {H : Hp} : ∀ {vs : List V} {ds : List D} (j : Nat), RpA c H vs ds → RpA c H (vs.eraseIdx j) (ds.eraseIdx j)
  | _, _, _, .nil => .nil
  | _, _, 0, .cons _ t => t
  | _, _, j + 1, .cons r t => .cons r (RpA.erase j t)
def rRemD (X : Cx) : V → List V → Hp → VK → Prop := fun x ys H Q => ∃ (l : Addr) (vs : List V) (y : V) (xs : List D) (d : D) (n : Nat), n < 64 ∧ x = .ref l ∧ ys = [y] ∧ H l = some (.lst vs) ∧ RpA (cn X) H vs xs ∧ Rp (cn X) H y d ∧ shp n d = true ∧ (∀ x ∈ xs, shp n x = true) ∧ inD d xs = true ∧
  Q .non (upd H l (.lst (vs.eraseIdx (placeD d xs))))
theorem eqD_py (z d : D) : PyData.eqv z.py d.py = eqD z d := rfl
theorem mt_rem (hu : X.A.units + 65 < cLine) : MtM X "list.remove" (rRemD X) := by
  intro pins s σ H x ys v us Q I rx rxs h
  obtain ⟨l, vs, y, xs, d, n, hn, rfl, rfl, hH, ra, rd, sd, sx, hin, q⟩ := h
  cases rx
  obtain ⟨uy, rfl, ru⟩ := rxs.one
  obtain ⟨z, its, m, r, hl, e⟩ := I.lstM hH
  have sl : shp (n + 1) (.lst xs) = true := by rw [shp, List.all_eq_true]; exact sx
  have sl' : SeqAt.shaped (.list (pys xs)) = true := by
    have := shp_shaped sl (by omega)
    rwa [D.py] at this
  have sd' : SeqAt.shaped d.py = true := shp_shaped sd (by omega)
  have hxs : PyData.canLayAll0 (pys xs) = true := SeqAt.canLay_of_shaped sl'
  obtain ⟨bs, r1⟩ := Dp.reads I d.py y uy (rd.dp sd) ru
  obtain ⟨as, h4⟩ := Dp.readsAll I (pys xs) vs its (ra.dp sx) r
  have hmap : its.map (SeqAt.readOf s.heap) = pys xs := SeqAt.readsAll_map (pys xs) its as hxs h4
  have hroom : X.A.units + 1 + min (PyData.depthAll (pys xs)) d.py.depth < cLine := room_in_shaped sd' hu
  have hlx : vs.length = xs.length := ra.length
  have hli : its.length = xs.length := by rw [← hl, hlx]
  have hany : ∃ x ∈ xs, eqD x d = true := by
    have := hin
    rw [inD, List.any_eq_true] at this
    exact this
  have hpl : placeD d xs < xs.length := List.findIdx_lt_length.mpr hany
  have hj : placeD d xs < its.toArray.size := by simp; omega
  have at_ : ∀ (k : Nat) (hk : k < its.toArray.size) (hk' : k < xs.length), SeqAt.readOf s.heap its.toArray[k] = (xs[k]).py := by
    intro k hk hk'
    have e1 := congrArg (fun l => l[k]?) hmap
    have hk2 : k < its.length := by simpa using hk
    simp only [pys_map, List.getElem?_map, List.getElem?_eq_getElem hk2, List.getElem?_eq_getElem hk', Option.map_some] at e1
    simpa using e1
  refine call_meets PySem.F.slot_list_remove ⟨_, e, rfl⟩ PySem.F.entry_list_remove (PySem.F.args_list_remove_2 _ _)
    (list_rem l its.toArray m uy (fun u => PyData.eqv (SeqAt.readOf s.heap u) d.py) (placeD d xs) hj ?_ ?_ (by rw [List.size_toArray]; omega))
    ⟨e, SeqAt.items_eqAt (vs := its.toArray) (show ReadsAll s.heap its.toArray.toList (pys xs) as from h4) r1 hxs (SeqAt.canLay_of_shaped sd') hroom, ?_⟩
  · show PyData.eqv (SeqAt.readOf s.heap its.toArray[placeD d xs]) d.py = true
    rw [at_ _ hj hpl, eqD_py]
    exact List.findIdx_getElem (w := hpl)
  · intro k hk hkj
    have hk' : k < xs.length := by omega
    show PyData.eqv (SeqAt.readOf s.heap its.toArray[k]) d.py = false
    rw [at_ _ hk hk', eqD_py]
    have := List.not_of_lt_findIdx hkj
    simpa using this
  · refine ⟨.non, _, I.lset (its' := its.eraseIdx (placeD d xs)) (t' := s.toks) hH e ?_ (r.eraseIdx _) ?_, rfl, q⟩
    · show its.toArray.eraseIdxIfInBounds (placeD d xs) = (its.eraseIdx (placeD d xs)).toArray
      rw [List.eraseIdxIfInBounds_toArray]
    · have := List.length_eraseIdx_le vs (placeD d xs)
      omega
/-- x.remove(y) -/
theorem ow_remove (hu : X.A.units + 65 < cLine) (n : Nat) (hn : n < 64 := by decide) : OwnM X "list.remove" (fun xs ds R => ∃ d, ds = [d] ∧ shp n d = true ∧ (∀ x ∈ xs, shp n x = true) ∧ inD d xs = true ∧ xs.length ≤ sizeLine ∧ R .non (remD d xs)) := by
  refine ⟨_, mt_rem hu, fun Hs H q vs xs as ds R Q hq ra rs hS hqs h k => ?_⟩
  obtain ⟨d, rfl, h1, h2, h3, h4, hR⟩ := h
  cases rs with
  | cons r rs =>
    cases rs
    refine ⟨q, vs, _, xs, d, n, hn, rfl, rfl, hq, ra.same hS, r.same hS, h1, h2, h3, k .non _ _ .non hR (ra.erase _) .non ?_⟩
    have := List.length_eraseIdx_le xs (placeD d xs)
    show (xs.eraseIdx (placeD d xs)).length ≤ sizeLine
    omega

/-! ### on the way: a list of one's own, read by an operation that gives a leaf -/
def leafD : D → Bool
  | .non => true | .bl _ => true | .int _ => true | .str _ => true | .raw _ => true | _ => false
theorem Rp.leaf {c : Cn} {H H' : Hp} {v : V} {d : D} (r : Rp c H v d) (h : leafD d = true) : Rp c H' v d := by
  cases r with
  | non => exact .non
  | bl => exact .bl _
  | int => exact .int _
  | str z => exact .str z
  | raw => exact .raw _
  | tup => cases h
  | lst => cases h
  | dic => cases h
variable {W : Wld} {B : Bs W}
theorem Lay.bare {Hs H Hs' H' : Hp} (hs : Same Hs H) (l : Lay H H Hs' H') : Lay Hs H Hs H' := ⟨Same.refl _, hs.trans l.ext, fun _ q => .inl q, l.ext⟩
/-- a left operand, and a list of one's own on the right -/
def dOpO (i : Nat) (p : P2) (ta : TD W) : TD W := fun ρ s Q => ∃ xs, ρ[i]? = some (.own (.lst xs)) ∧ ta ρ s fun x s1 => p x (.lst xs) fun d => leafD d = true ∧ Q d s1
theorem lift_opO {r : R2} {p : P2} {i : Nat} {ta : TD W} (l : Lk2 X r p) {σ : L2.St} {H : Hp} {Q : VK} (h : liftE (cn X) W B (dOpO i p ta) σ H Q) : tOp r (liftE (cn X) W B ta) (tVar i) σ H Q := by
  obtain ⟨Hs, ρ, s, R, S, ⟨xs, e1, h1⟩, k⟩ := h
  refine ⟨Hs, ρ, s, _, S, h1, fun x s1 Hs1 H1 v hR g rv => ?_⟩
  obtain ⟨q, o, a1, a2, a3, a4, a5, a6⟩ := (S.step g).ow i _ e1
  cases a3 with
  | lst z ra =>
    exact ⟨_, a1, l H1 H1 v (.ref q) x (.lst xs) _ _ (Same.refl _) (rv.same g.sub) (.lst z (SqL.of a2) (ra.same g.sub)) hR fun d Hs2 H2 w ⟨hd, hq⟩ ly rw' => k d s1 Hs1 H2 w hq (g.trans ((Lay.bare g.sub ly).go g.rel)) (rw'.leaf hd)⟩
theorem de_cmpO {i : Nat} {a b : Expr} {pos : Pos} {ta : TD W} {op : CmpOp} {p : P2} (ho : OpD X (compareOp op) p) (ha : DE W B X a ta) (hb : PE X b (tVar i)) (hm : behindInMarks op b = false := by first | exact nomark _ | rfl) : DE W B X (.Compare a [op] [b] pos) (dOpO i p ta) := by
  obtain ⟨r, hr, l⟩ := ho
  exact ⟨pe_imp (pe_cmpR hr ha.run hb hm) fun σ H Q h => lift_opO l h⟩
theorem dt_cmpO {i : Nat} {a b : Expr} {pos : Pos} {ta : TD W} {op : CmpOp} {p : P2} (ho : OpD X (compareOp op) p) (ha : DE W B X a ta) (hb : PE X b (tVar i)) (hm : behindInMarks op b = false := by first | exact nomark _ | rfl) : DT W B X (.Compare a [op] [b] pos) (dB (dOpO i p ta)) := by
  obtain ⟨r, hr, l⟩ := ho
  refine ⟨pt_imp (pt_cmpR hr ha.run hb hm) fun σ H Q h => ?_⟩
  obtain ⟨Hs, ρ, s, R, S, h1, k⟩ := h
  refine lift_opO l ⟨Hs, ρ, s, _, S, h1, fun d s1 Hs1 H1 v hR g r => ?_⟩
  obtain ⟨b, rfl, hq⟩ := hR
  exact ⟨b, r.blE, k b s1 Hs1 H1 hq g⟩
/-- f(x) of a list of one's own -/
def dCallO (i : Nat) (p : PL) : TD W := fun ρ s Q => ∃ xs, ρ[i]? = some (.own (.lst xs)) ∧ p [.lst xs] fun d => leafD d = true ∧ Q d s
theorem de_callO {i : Nat} {x : Str} {e : Expr} {p' pos : Pos} {id : String} {p : PL} (hc : CallD X (.builtin id) p) (hg : Gl X x) (hm : X.mg x = none) (hv : bootBuiltins x = some (.builtin id)) (he : PE X e (tVar i)) (hn : x ≠ "__name__" := by decide) (hdb : (x == ("__debug__" : Str)) = false := by decide)
    (hs : starEach [e] X.env = [(false, eval e X.env)] := by rfl) : DE W B X (.Call (.Name x p') [e] [] pos) (dCallO (W := W) i p) := by
  obtain ⟨r, hr, l⟩ := hc
  refine ⟨pe_imp (pe_callB hr hg hm hv (pa_cons he pa_nil hs) hn hdb hs) fun σ H Q h => ?_⟩
  obtain ⟨Hs, ρ, s, R, S, ⟨xs, e1, h1⟩, k⟩ := h
  obtain ⟨q, o, a1, a2, a3, a4, a5, a6⟩ := S.ow i _ e1
  cases a3 with
  | lst z ra =>
    exact ⟨_, a1, l H H [.ref q] [.lst xs] _ _ (Same.refl _) (.one (.lst z (SqL.of a2) (ra.same S.sub))) h1 fun d Hs2 H2 w ⟨hd, hq⟩ ly rw' => k d s Hs H2 w hq ((Lay.bare S.sub ly).go S.rel) (rw'.leaf hd)⟩
end
end Dv

set_option Elab.async false
set_option linter.all false
set_option maxRecDepth 100000
set_option maxHeartbeats 4000000
/-! comprehensions of two clauses; name = [..]. -/
namespace Dv
open PySem L2

/-! ### a heap without one thing -/
def rid (p : Addr) (H : Hp) : Hp := fun a => if a = p then none else H a
theorem rid_same {p : Addr} {H : Hp} : rid p H p = none := by unfold rid; rw [if_pos rfl]
theorem rid_ne {p a : Addr} {H : Hp} (h : a ≠ p) : rid p H a = H a := by unfold rid; rw [if_neg h]
theorem rid_free {p : Addr} {H : Hp} (h : H p = none) : rid p H = H := by
  funext a
  by_cases z : a = p
  · rw [z, rid_same, h]
  · rw [rid_ne z]
theorem rid_upd {p : Addr} {H : Hp} {o : HO} : rid p (upd H p o) = rid p H := by
  funext a
  by_cases z : a = p
  · rw [z, rid_same, rid_same]
  · rw [rid_ne z, rid_ne z, upd_ne z]
theorem rid_le {p a : Addr} {H : Hp} {o : HO} (h : rid p H a = some o) : a ≠ p ∧ H a = some o := by
  by_cases z : a = p
  · rw [z, rid_same] at h; cases h
  · rw [rid_ne z] at h; exact ⟨z, h⟩
section
variable {c : Cn} {W : Wld}
theorem Go.rid {s s' : W.S} {Hs H Hs' H' : Hp} {p : Addr} (g : Go W s Hs H s' Hs' H') (h1 : Hs p = none) (h2 : H p ≠ none) (h3 : ¬ W.own s p) : Go W s Hs (rid p H) s' Hs' (rid p H') ∧ Hs' p = none ∧ ¬ W.own s' p ∧ H' p = H p := by
  have f : Hs' p = none := by
    cases q : Hs' p with
    | none => rfl
    | some u =>
      rcases g.new p (by rw [q]; exact fun z => nomatch z) with z | z
      · exact absurd h1 z
      · exact absurd z h2
  have n : ¬ W.own s' p := fun z => by
    rcases g.wn p z with y | y
    · exact h3 y
    · exact h2 y
  refine ⟨⟨g.fz, fun a u q => ?_, fun a q => ?_, fun a u q nn => ?_, fun a q => ?_, fun a q => ?_, W.keep g.rel (Same.refl _) (fun _ _ z => z) fun a q => ?_⟩, f, n, ?_⟩
  · rw [rid_ne (fun z => by rw [z, f] at q; cases q)]
    exact g.sub a u q
  · by_cases z : a = p
    · rw [z]; exact .inr rid_same
    · rw [rid_ne z]; exact g.new a q
  · obtain ⟨z, q⟩ := rid_le q
    rw [rid_ne z]
    exact g.ext a u q nn
  · by_cases z : a = p
    · rw [z, rid_same] at q; exact absurd rfl q
    · rw [rid_ne z] at q ⊢; exact g.th a q
  · by_cases z : a = p
    · rw [z]; exact .inr rid_same
    · rw [rid_ne z]; exact g.wn a q
  · exact rid_ne (fun z : a = p => n (by rw [← z]; exact q))
  · obtain ⟨o, e⟩ := ne_none h2
    rw [e]
    exact g.ext p o e h3
theorem rel_unrid {s : W.S} {Hs H : Hp} {p : Addr} (r : W.rel s Hs (rid p H)) (h : ¬ W.own s p) : W.rel s Hs H := W.keep r (Same.refl _) (fun _ _ z => z) fun a q => (rid_ne (fun z : a = p => h (by rw [← z]; exact q))).symm
theorem same_unrid {Hs H : Hp} {p : Addr} (r : Same Hs (rid p H)) : Same Hs H := fun a o q => (rid_le (r a o q)).2
variable {B : Bs W} {σ : L2.St} {ρ : Env}
theorem Stt.unrid {H Hs : Hp} {s : W.S} {p : Addr} (S : Stt c W B σ (Dv.rid p H) ρ s Hs) (h : ¬ W.own s p) : Stt c W B σ H ρ s Hs := by
  refine ⟨⟨S.go.fz, same_unrid S.go.sub, S.go.new, fun a o q n => (rid_le (S.go.ext a o q n)).2, fun a q => ?_, S.go.wn, rel_unrid S.go.rel h⟩, S.len, S.dat, fun i b e => ?_, S.ap⟩
  · obtain ⟨o, e⟩ := ne_none (S.go.th a q)
    rw [(rid_le e).2]
    exact fun z => nomatch z
  · obtain ⟨q, o, a1, a2, a3, a4, a5, a6⟩ := S.ow i b e
    exact ⟨q, o, a1, (rid_le a2).2, a3, a4, a5, a6⟩
/-- the base with p in it -/
def plus (B : Bs W) (p : Addr) (H : Hp) : Bs W := ⟨B.s, B.Hs, fun a => if a = p then H p else B.H a⟩
theorem Stt.over {H Hs : Hp} {s : W.S} {p : Addr} (S : Stt c W B σ (Dv.rid p H) ρ s Hs) (h1 : Hs p = none) (h : ¬ W.own s p) (hb : B.H p = none) : Stt c W (plus B p H) σ H ρ s Hs := by
  have S' := S.unrid h
  refine ⟨⟨S'.go.fz, S'.go.sub, fun a q => ?_, fun a o q n => ?_, fun a q => ?_, fun a q => ?_, S'.go.rel⟩, S.len, S.dat, fun i b e => ?_, S.ap⟩
  · rcases S'.go.new a q with z | z
    · exact .inl z
    · refine .inr ?_
      show (if a = p then H p else B.H a) = none
      rw [if_neg (fun y : a = p => q (by rw [y]; exact h1))]
      exact z
  · by_cases z : a = p
    · subst z
      change (if a = a then H a else B.H a) = some o at q
      rwa [if_pos rfl] at q
    · change (if a = p then H p else B.H a) = some o at q
      rw [if_neg z] at q
      exact S'.go.ext a o q n
  · by_cases z : a = p
    · subst z
      change (if a = a then H a else B.H a) ≠ none at q
      rwa [if_pos rfl] at q
    · change (if a = p then H p else B.H a) ≠ none at q
      rw [if_neg z] at q
      exact S'.go.th a q
  · have z : a ≠ p := fun z => h (by rw [← z]; exact q)
    rcases S'.go.wn a q with y | y
    · exact .inl y
    · refine .inr ?_
      show (if a = p then H p else B.H a) = none
      rw [if_neg z]
      exact y
  · obtain ⟨q, o, a1, a2, a3, a4, a5, a6⟩ := S.ow i b e
    obtain ⟨z, a2⟩ := rid_le a2
    refine ⟨q, o, a1, a2, a3, a4, a5, ?_⟩
    show (if q = p then H p else B.H q) = none
    rw [if_neg z]
    exact a6
theorem Stt.under {H Hs : Hp} {s : W.S} {p : Addr} (S : Stt c W (plus B p H) σ H ρ s Hs) (hp : H p ≠ none) (g : Go W B.s B.Hs B.H s Hs (Dv.rid p H)) : Stt c W B σ (Dv.rid p H) ρ s Hs := by
  refine ⟨g, S.len, S.dat, fun i b e => ?_, S.ap⟩
  obtain ⟨q, o, a1, a2, a3, a4, a5, a6⟩ := S.ow i b e
  change (if q = p then H p else B.H q) = none at a6
  by_cases z : q = p
  · rw [if_pos z] at a6
    exact absurd a6 hp
  · rw [if_neg z] at a6
    exact ⟨q, o, a1, by rw [rid_ne z]; exact a2, a3, a4, a5, a6⟩

/-! ### the list that grows -/
structure Gr (c : Cn) (W : Wld) (s1 : W.S) (Hs1 H1 : Hp) (p : Addr) (s : W.S) (Hs H : Hp) (acc : List D) : Prop where
  go : Go W s1 Hs1 H1 s Hs (rid p H)
  has : ∃ vacc, H p = some (.lst vacc) ∧ RpA c Hs vacc acc
  free : Hs p = none
  nown : ¬ W.own s p
variable {s1 s s' : W.S} {Hs1 H1 Hs H Hs' H' : Hp} {p : Addr} {acc : List D}
theorem Gr.ne (g : Gr c W s1 Hs1 H1 p s Hs H acc) : H p ≠ none := by
  obtain ⟨v, e, _⟩ := g.has
  rw [e]
  exact fun z => nomatch z
theorem Gr.sub (g : Gr c W s1 Hs1 H1 p s Hs H acc) : Same Hs H := same_unrid g.go.sub
theorem Gr.rel (g : Gr c W s1 Hs1 H1 p s Hs H acc) : W.rel s Hs H := rel_unrid g.go.rel g.nown
theorem Gr.step (g : Gr c W s1 Hs1 H1 p s Hs H acc) (k : Go W s Hs H s' Hs' H') : Gr c W s1 Hs1 H1 p s' Hs' H' acc := by
  obtain ⟨k1, k2, k3, k4⟩ := k.rid g.free g.ne g.nown
  obtain ⟨v, e, r⟩ := g.has
  exact ⟨g.go.trans k1, ⟨v, by rw [k4, e], r.same k.fz⟩, k2, k3⟩
theorem Gr.put {d : D} {v : V} (g : Gr c W s1 Hs1 H1 p s Hs H acc) (r : Rp c Hs v d) : ∃ vacc, H p = some (.lst vacc) ∧ vacc.length = acc.length ∧ Gr c W s1 Hs1 H1 p s Hs (upd H p (.lst (vacc ++ [v]))) (acc ++ [d]) := by
  obtain ⟨vacc, e, ra⟩ := g.has
  exact ⟨vacc, e, ra.length, by rw [rid_upd]; exact g.go, ⟨_, upd_same, ra.append (.one r)⟩, g.free, g.nown⟩
/-- going on from a later point -/
theorem Gr.from {s2 : W.S} {Hs2 H2 : Hp} (g : Gr c W s1 Hs1 H1 p s Hs H acc) : Gr c W s Hs (rid p H) p s Hs H acc := ⟨Go.refl g.go.sub g.go.rel, g.has, g.free, g.nown⟩
/-- the turns of a comprehension, the list in hand -/
def lcGo2 {S : Type} (body : D → List D → S → (List D → S → Prop) → Prop) : List D → List D → S → (List D → S → Prop) → Prop
  | [], acc, s, Q => Q acc s
  | x :: xs, acc, s, Q => body x acc s fun acc' s' => lcGo2 body xs acc' s' Q
def lcIn (gt1 : TDG) (tt1 : TDB W) (te : TD W) (ρ : Env) : D → List D → W.S → (List D → W.S → Prop) → Prop := fun y acc s K => gt1 y ρ fun ρ3 => tt1 ρ3 s fun b s4 => if b = true then te ρ3 s4 fun d s5 => acc.length < sizeLine ∧ K (acc ++ [d]) s5 else K acc s4
def lcOut (gt : TDG) (tt : TDB W) (ti1 : TDI W) (gt1 : TDG) (tt1 : TDB W) (te : TD W) (vs1 : List Nat) (ρ : Env) : D → List D → W.S → (List D → W.S → Prop) → Prop := fun x acc s K => gt x ρ fun ρ2 => tt ρ2 s fun b s2 =>
  if b = true then ti1 ρ2 s2 fun ys s3 => lcGo2 (lcIn gt1 tt1 te (wipeD ρ2 vs1)) ys acc s3 K else K acc s2
def dLc2 (ti : TDI W) (gt : TDG) (tt : TDB W) (ti1 : TDI W) (gt1 : TDG) (tt1 : TDB W) (te : TD W) (vs vs1 : List Nat) : TD W := fun ρ s Q => ti ρ s fun xs s1 => lcGo2 (lcOut gt tt ti1 gt1 tt1 te vs1 (wipeD ρ vs)) xs [] s1 fun ys s2 => ys.length ≤ sizeLine ∧ Q (.lst ys) s2
theorem wipe_wipe {vs : List Nat} : ∀ (us : List Nat) (τ : L2.St), (∀ i ∈ us, i ∈ vs) → wipe (wipe τ us) vs = wipe τ vs
  | [], τ, _ => rfl
  | j :: js, τ, hj => by
    show wipe ((wipe τ js).set j none) vs = wipe τ vs
    rw [wipe_set (hj j (by simp)), wipe_wipe js τ fun i hi => hj i (by simp [hi])]
def PGt (c : Cn) (W : Wld) (is : List Nat) (g : TG) (gt : TDG) : Prop := ∀ (B : Bs W) σ H ρ s Hs x d R Q, Stt c W B σ H ρ s Hs → Rp c Hs x d → gt d ρ R → (∀ ρ' σ', R ρ' → Stt c W B σ' H ρ' s Hs → (∀ vs, (∀ i ∈ is, i ∈ vs) → wipe σ' vs = wipe σ vs) → Q σ' H) → g x σ H Q
theorem lc2_turns {X : Cx} {ti ti1 : TDI W} {g g1 : TG} {gt gt1 : TDG} {tt tt1 : TDB W} {te : TD W} {is is1 vs vs1 : List Nat} {σ : L2.St} {H : Hp} {Q : VK} (hv : ∀ i ∈ is, i ∈ vs) (hv1 : ∀ i ∈ is1, i ∈ vs1)
    (hg : PGt (cn X) W is g gt) (hg1 : PGt (cn X) W is1 g1 gt1)
    (h : liftE (cn X) W B (dLc2 ti gt tt ti1 gt1 tt1 te vs vs1) σ H Q) : tLc2 (liftI (cn X) W B ti) g (liftT (cn X) W B tt) (liftI (cn X) W B ti1) g1 (liftT (cn X) W B tt1) (liftE (cn X) W B te) vs vs1 σ H Q := by
  obtain ⟨Hs, ρ, s, R, S, h1, k⟩ := h
  refine ⟨Hs, ρ, s, _, S, h1, fun xs s1 Hs1 H1 J hL g1' wk => ?_⟩
  intro p hp
  have S1 := S.step g1'
  have hps : Hs1 p = none := g1'.sub.free hp
  have hpw : ¬ W.own s1 p := fun z => W.there g1'.rel z hp
  have hB : B.H p = none := free_of S1.go.th hp
  refine ⟨fun i m H' => m = xs.length - i ∧ i ≤ xs.length ∧ ∃ Hs' s' acc, Gr (cn X) W s1 Hs1 H1 p s' Hs' H' acc ∧ lcGo2 (lcOut gt tt ti1 gt1 tt1 te vs1 (wipeD ρ vs)) (xs.drop i) acc s' (fun ys s2 => ys.length ≤ sizeLine ∧ R (.lst ys) s2),
    ⟨_, rfl, Nat.zero_le _, Hs1, s1, [], ⟨by rw [rid_upd, rid_free hp]; exact Go.refl g1'.sub g1'.rel, ⟨[], upd_same, .nil⟩, hps, hpw⟩, hL⟩, ?_⟩
  rintro i m H2 ⟨rfl, hi, Hs2, s2, acc, G2, hgo⟩
  by_cases hlt : i < xs.length
  · have hx : xs[i]? = some xs[i] := List.getElem?_eq_getElem hlt
    rw [List.drop_eq_getElem_cons hlt] at hgo
    refine .inr ⟨wk.go i Hs2 H2 G2.go.fz G2.sub hlt, fun H' => i + 1 ≤ xs.length ∧ ∃ Hs' s' acc, Gr (cn X) W s1 Hs1 H1 p s' Hs' H' acc ∧ lcGo2 (lcOut gt tt ti1 gt1 tt1 te vs1 (wipeD ρ vs)) (xs.drop (i + 1)) acc s' (fun ys s2 => ys.length ≤ sizeLine ∧ R (.lst ys) s2),
      fun H' h' => ⟨xs.length - (i + 1), by omega, rfl, h'⟩, fun x H3 hy => ?_⟩
    obtain ⟨Hs3, ly, rx⟩ := wk.yld i _ Hs2 H2 x H3 G2.go.fz G2.sub hx hy
    have G3 := G2.step (ly.go G2.rel)
    have S3 := (S1.step G3.go).wipe vs
    refine hg (plus B p H3) (wipe σ vs) H3 (wipeD ρ vs) s2 Hs3 x _ _ _ (S3.over G3.free G3.nown hB) rx hgo fun ρ4 σ4 hR4 S4' w4 => ?_
    have S4 := S4'.under G3.ne (S1.go.trans G3.go)
    refine ⟨by rw [w4 vs hv, wipe_wipe vs σ fun i hi => hi], Hs3, ρ4, s2, _, S4.unrid G3.nown, hR4, fun b s5 Hs5 H5 hR5 g5 => ?_⟩
    have G5 := G3.step g5
    have S5 := S4.step (g5.rid G3.free G3.ne G3.nown).1
    cases b with
    | false =>
      rw [if_neg Bool.false_ne_true] at hR5
      show if false = true then _ else _
      rw [if_neg Bool.false_ne_true]
      exact ⟨hlt, Hs5, s5, acc, G5, hR5⟩
    | true =>
      rw [if_pos rfl] at hR5
      show if true = true then _ else _
      rw [if_pos rfl]
      refine ⟨Hs5, ρ4, s5, _, S5.unrid G5.nown, hR5, fun ys s6 Hs6 H6 J1 hR6 g6 wk1 => ?_⟩
      have G6 := G5.step g6
      have S6 := S5.step (g6.rid G5.free G5.ne G5.nown).1
      have G6' := Gr.from (s2 := s6) (Hs2 := Hs6) (H2 := H6) G6
      refine ⟨fun j k H' => k = ys.length - j ∧ j ≤ ys.length ∧ ∃ Hs' s' acc, Gr (cn X) W s6 Hs6 (Dv.rid p H6) p s' Hs' H' acc ∧ lcGo2 (lcIn gt1 tt1 te (wipeD ρ4 vs1)) (ys.drop j) acc s' (fun acc' s' => lcGo2 (lcOut gt tt ti1 gt1 tt1 te vs1 (wipeD ρ vs)) (xs.drop (i + 1)) acc' s' (fun ys s2 => ys.length ≤ sizeLine ∧ R (.lst ys) s2)),
        ⟨_, rfl, Nat.zero_le _, Hs6, s6, acc, G6', hR6⟩, ?_⟩
      rintro j kk H7 ⟨rfl, hj, Hs7, s7, acc7, G7, hgo7⟩
      by_cases hlt1 : j < ys.length
      · have hx1 : ys[j]? = some ys[j] := List.getElem?_eq_getElem hlt1
        rw [List.drop_eq_getElem_cons hlt1] at hgo7
        refine .inr ⟨wk1.go j Hs7 H7 G7.go.fz G7.sub hlt1, fun H' => j + 1 ≤ ys.length ∧ ∃ Hs' s' acc, Gr (cn X) W s6 Hs6 (Dv.rid p H6) p s' Hs' H' acc ∧ lcGo2 (lcIn gt1 tt1 te (wipeD ρ4 vs1)) (ys.drop (j + 1)) acc s' (fun acc' s' => lcGo2 (lcOut gt tt ti1 gt1 tt1 te vs1 (wipeD ρ vs)) (xs.drop (i + 1)) acc' s' (fun ys s2 => ys.length ≤ sizeLine ∧ R (.lst ys) s2)),
          fun H' h' => ⟨ys.length - (j + 1), by omega, rfl, h'⟩, fun x1 H8 hy1 => ?_⟩
        obtain ⟨Hs8, ly1, rx1⟩ := wk1.yld j _ Hs7 H7 x1 H8 G7.go.fz G7.sub hx1 hy1
        have G8 := G7.step (ly1.go G7.rel)
        have S8 := (S6.step G8.go).wipe vs1
        refine hg1 (plus B p H8) (wipe σ4 vs1) H8 (wipeD ρ4 vs1) s7 Hs8 x1 _ _ _ (S8.over G8.free G8.nown hB) rx1 hgo7 fun ρ9 σ9 hR9 S9' w9 => ?_
        have S9 := S9'.under G8.ne (S6.go.trans G8.go)
        refine ⟨by rw [w9 vs1 hv1, wipe_wipe vs1 σ4 fun i hi => hi], Hs8, ρ9, s7, _, S9.unrid G8.nown, hR9, fun b s10 Hs10 H10 hR10 g10 => ?_⟩
        have G10 := G8.step g10
        have S10 := S9.step (g10.rid G8.free G8.ne G8.nown).1
        cases b with
        | false =>
          rw [if_neg Bool.false_ne_true] at hR10
          show if false = true then _ else _
          rw [if_neg Bool.false_ne_true]
          exact ⟨hlt1, Hs10, s10, acc7, G10, hR10⟩
        | true =>
          rw [if_pos rfl] at hR10
          show if true = true then _ else _
          rw [if_pos rfl]
          refine ⟨Hs10, ρ9, s10, _, S10.unrid G10.nown, hR10, fun d s11 Hs11 H11 v ⟨hl11, hR11⟩ g11 rv => ?_⟩
          obtain ⟨vacc, e1, e2, G11⟩ := (G10.step g11).put rv
          exact ⟨vacc, e1, by omega, hlt1, Hs11, s11, _, G11, hR11⟩
      · have e : j = ys.length := by omega
        subst e
        refine .inl ⟨wk1.stop Hs7 H7 G7.go.fz G7.sub, hlt, Hs7, s7, acc7, ⟨G6.go.trans G7.go, G7.has, G7.free, G7.nown⟩, ?_⟩
        rw [List.drop_length] at hgo7
        exact hgo7
  · have e : i = xs.length := by omega
    subst e
    refine .inl ⟨wk.stop Hs2 H2 G2.go.fz G2.sub, ?_⟩
    rw [List.drop_length] at hgo
    obtain ⟨hz, hq⟩ := hgo
    obtain ⟨vacc, e1, ra⟩ := G2.has
    refine k (.lst acc) s2 (upd Hs2 p (.lst vacc)) H2 _ hq (g1'.trans ?_) (.lstN G2.free hz ra)
    refine ⟨G2.go.fz.trans (Same.updR G2.free), fun a u q => ?_, fun a q => ?_, fun a o q n => (rid_le (G2.go.ext a o q n)).2, fun a q => ?_, G2.go.wn, W.keep G2.rel (Same.updR G2.free) (upd_keep G2.nown) fun _ _ => rfl⟩
    · by_cases z : a = p
      · rw [z, upd_same] at q
        rw [z, e1]
        exact q
      · rw [upd_ne z] at q
        exact G2.sub a u q
    · by_cases z : a = p
      · rw [z]; exact .inr hp
      · rw [upd_ne z] at q
        exact G2.go.new a q
    · obtain ⟨o, e⟩ := ne_none (G2.go.th a q)
      rw [(rid_le e).2]
      exact fun z => nomatch z
end
section
variable {W : Wld} {B : Bs W} {X : Cx}
/-- a target's reading that serves in every block -/
def gU (c : Cn) (W : Wld) (is : List Nat) (gt : TDG) : TG := fun x σ H Q => ∃ (B : Bs W) (ρ : Env) (s : W.S) (Hs : Hp) (d : D) (R : Env → Prop), Stt c W B σ H ρ s Hs ∧ Rp c Hs x d ∧ gt d ρ R ∧
      ∀ ρ' σ', R ρ' → Stt c W B σ' H ρ' s Hs → (∀ vs, (∀ i ∈ is, i ∈ vs) → wipe σ' vs = wipe σ vs) → Q σ' H
theorem gU_pg {Y : Cx} {tg : Expr} {is : List Nat} {gt : TDG} (h : DG Y tg is gt) : PG Y tg (gU (cn Y) W is gt) := by
  obtain ⟨g, pg, l⟩ := h
  exact ⟨fun pins s1 σ H1 v u Q I1 r ⟨B, ρ, st, Hs, d, R, S, rx, h, k⟩ => pg.run pins s1 σ H1 v u Q I1 r (l W B σ H1 ρ st Hs v d R Q S rx h k)⟩
theorem gU_gt {c : Cn} {is : List Nat} {gt : TDG} : PGt c W is (gU c W is gt) gt := fun B σ H ρ s Hs x d R Q S r h k => ⟨B, ρ, s, Hs, d, R, S, r, h, k⟩
/-- [elt for tg in iter if .. for tg1 in iter1 if ..] -/
theorem de_lc2 {elt tg iter tg1 iter1 : Expr} {ifs ifs1 : List Expr} {scope : Scope} {own : List (Str × Nat)} {vs1 : List Nat} {pos : Pos} {ti ti1 : TDI W} {is is1 : List Nat} {gt gt1 : TDG} {tt tt1 : TDB W} {te : TD W} (hc : X.calm = true) (hN : X.N.Nodup) (hi : DI W B X tg iter ti) (ok : BlkOk X.N X.env.scope scope own)
    (hg : ∀ (s : Shared) (H : Hp) (C : Addr) (cl : List (Str × Addr)) (fp : List Addr), DG (X.blk s H scope (compEnvC scope cl C X.env) fp) tg is gt) (ht : ∀ (s : Shared) (H : Hp) (C : Addr) (cl : List (Str × Addr)) (fp : List Addr), DTs W B (X.blk s H scope (compEnvC scope cl C X.env) fp) ifs tt)
    (hi1 : ∀ (s : Shared) (H : Hp) (C : Addr) (cl : List (Str × Addr)) (fp : List Addr), DI W B (X.blk s H scope (compEnvC scope cl C X.env) fp) tg1 iter1 ti1)
    (hg1 : ∀ (s : Shared) (H : Hp) (C : Addr) (cl : List (Str × Addr)) (fp : List Addr), DG (X.blk s H scope (compEnvC scope cl C X.env) fp) tg1 is1 gt1) (ht1 : ∀ (s : Shared) (H : Hp) (C : Addr) (cl : List (Str × Addr)) (fp : List Addr), DTs W B (X.blk s H scope (compEnvC scope cl C X.env) fp) ifs1 tt1)
    (he : ∀ (s : Shared) (H : Hp) (C : Addr) (cl : List (Str × Addr)) (fp : List Addr), DE W B (X.blk s H scope (compEnvC scope cl C X.env) fp) elt te) (hv : ∀ i ∈ is, i ∈ own.map (·.2) := by decide) (hv1 : ∀ i ∈ is1, i ∈ vs1 := by decide) (hv2 : ∀ i ∈ vs1, i ∈ own.map (·.2) := by decide)
    (hs : ∀ x, foldedSetIterable iter X.env x = pure x := by intro _; rfl) (hs1 : ∀ env x, foldedSetIterable iter1 env x = pure x := by intro _ _; rfl) :
    DE W B X (.ListComp elt [⟨tg, iter, ifs, 0⟩, ⟨tg1, iter1, ifs1, 0⟩] scope pos) (dLc2 ti gt tt ti1 gt1 tt1 te (own.map (·.2)) vs1) :=
  ⟨pe_imp (pe_lc2 (g := gU (cn X) W is gt) (g1 := gU (cn X) W is1 gt1) hc hN hi.run ok hv2 (fun s H C cl fp => gU_pg (hg s H C cl fp)) (fun s H C cl fp => (ht s H C cl fp).run) (fun s H C cl fp => (hi1 s H C cl fp).run) (fun s H C cl fp => gU_pg (hg1 s H C cl fp)) (fun s H C cl fp => (ht1 s H C cl fp).run) (fun s H C cl fp => (he s H C cl fp).run) hs hs1)
    fun σ H Q h => lc2_turns (X := X) hv hv1 gU_gt gU_gt h⟩
/-- name = [..] on one line -/
theorem ds_setLc {i : Nat} {y : Str} {py : Pos} {elt tg iter : Expr} {ifs : List Expr} {scope : Scope} {own : List (Str × Nat)} {pos spos : Pos} {ti : TDI W} {is : List Nat} {gt : TDG} {tt : TDB W} {te : TD W} (hc : X.calm = true) (hN : X.N.Nodup) (hy : X.N[i]? = some y) (hyl : X.env.scope.names.lookup y = some .local)
    (hsw : swapsWith (.ListComp elt [⟨tg, iter, ifs, 0⟩] scope pos) (some (.Name y py)) spos.line X.env = pure true) (hi : DI W B X tg iter ti) (ok : BlkOk X.N X.env.scope scope own)
    (hg : ∀ (s : Shared) (H : Hp) (C : Addr) (cl : List (Str × Addr)) (fp : List Addr), DG (X.blk s H scope (compEnvC scope cl C X.env) fp) tg is gt) (ht : ∀ (s : Shared) (H : Hp) (C : Addr) (cl : List (Str × Addr)) (fp : List Addr), DTs W B (X.blk s H scope (compEnvC scope cl C X.env) fp) ifs tt)
    (he : ∀ (s : Shared) (H : Hp) (C : Addr) (cl : List (Str × Addr)) (fp : List Addr), DE W B (X.blk s H scope (compEnvC scope cl C X.env) fp) elt te) (hv : ∀ i ∈ is, i ∈ own.map (·.2) := by decide) (hs : ∀ x, foldedSetIterable iter X.env x = pure x := by intro _; rfl) :
    DS W B X (.Assign [.Name y py] (.ListComp elt [⟨tg, iter, ifs, 0⟩] scope pos) spos) (dSet (dLc ti gt tt te (own.map (·.2))) (gtName i)) :=
  ⟨ps_imp (ps_setLc (g := gU (cn X) W is gt) hc hN hy hyl hsw hi.run ok (fun s H C cl fp => gU_pg (W := W) (hg s H C cl fp)) (fun s H C cl fp => (ht s H C cl fp).run) (fun s H C cl fp => (he s H C cl fp).run) hs) fun D σ H ⟨Hs, ρ, s, E, S, h1, k⟩ =>
    lc_turns (X := X) (tg := tg) (is := is) (B := B) hv gU_gt ⟨Hs, ρ, s, _, S, h1, fun d s1 Hs1 H1 v hR g r => k.nx _ s1 Hs1 _ H1 hR g.fz ((S.step g).set r)⟩⟩
end
end Dv

set_option Elab.async false
set_option linter.all false
set_option maxRecDepth 100000
/-! a def that is called by its name. -/
namespace Dv
open PySem L2 PyProof.Rows
/-- the def x of the module keeps the promise sp -/
structure Cal (P : Program) (w : World) (K : PySem.W.Frag) (mg : Str → Option Value) (base : Heap) (x : Str) (k : Nat) (ps : List Str) (sp : Sp) : Prop where
  ex : ∃ f fd, FnOk P w K mg base CX0 k f fd ps sp ∧ mg x = some (.ref f) ∧ PySem.W.keepIn K (.ref f) = true ∧ Binds K fd ps []
/-- the def x stands in the text -/
structure Def (K : PySem.W.Frag) (mg : Str → Option Value) (x : Str) (st : Stmt) (ps : List Str) : Prop where
  ex : ∃ f fd, Fun K x x st f fd ∧ mg x = some (.ref f) ∧ Binds K fd ps []
section
variable {P : Program} {w : World} {K : PySem.W.Frag} {mg : Str → Option Value} {base : Heap} {x : Str} {ps : List Str} {st : Stmt}
/-- a def of the text keeps what its body gives -/
theorem Def.cal {k : Nat} {sp : Sp} (D : Def K mg x st ps) (h : ∀ f fd, Fun K x x st f fd → FnOk P w K mg base CX0 k f fd ps sp) : Cal P w K mg base x k ps sp := by
  obtain ⟨f, fd, F, m, b⟩ := D.ex
  exact ⟨f, fd, h f fd F, m, F.kp, b⟩
theorem Cal.mono {j k : Nat} {sp : Sp} (C : Cal P w K mg base x j ps sp) (h : j ≤ k) : Cal P w K mg base x k ps sp := by
  obtain ⟨f, fd, F, r⟩ := C.ex
  exact ⟨f, fd, F.mono h, r⟩
theorem Cal.imp {k : Nat} {sp sp' : Sp} (C : Cal P w K mg base x k ps sp) (h : ∀ vs H Q E, sp' vs H Q E → sp vs H Q E) : Cal P w K mg base x k ps sp' := by
  obtain ⟨f, fd, F, r⟩ := C.ex
  exact ⟨f, fd, F.imp h, r⟩
/-- a promise that is never claimed -/
theorem Def.never {k n : Nat} {ok : PL} {c : Cn} (D : Def K mg x st ps) (h : ∀ ds R, ok ds R → False) : Cal P w K mg base x k ps (spP c n ok) :=
  D.cal fun f fd F => ⟨fun vs H Q E ⟨_, _, _, _, _, _, z, _⟩ => (h _ _ z).elim, fun A outer s H args us vs Q E _ _ _ _ ⟨_, _, _, _, _, _, z, _⟩ => (h _ _ z).elim⟩
theorem Def.neverW {k n : Nat} {W : Wld} {ok : OkD W} {c : Cn} (D : Def K mg x st ps) (h : ∀ ds s R, ok ds s R → False) : Cal P w K mg base x k ps (spD c W n ok) :=
  D.cal fun f fd F => ⟨fun vs H Q E ⟨_, _, _, _, _, _, _, _, z, _⟩ => (h _ _ _ z).elim, fun A outer s H args us vs Q E _ _ _ _ ⟨_, _, _, _, _, _, _, _, z, _⟩ => (h _ _ _ z).elim⟩
theorem Cal.toW {k n : Nat} {ok : PL} {c : Cn} (W : Wld) (C : Cal P w K mg base x k ps (spP c n ok)) : Cal P w K mg base x k ps (spD c W n (lfP W ok)) := by
  obtain ⟨f, fd, F, r⟩ := C.ex
  exact ⟨f, fd, FnOk.toW W F, r⟩
end
section
variable {W : Wld} {B : Bs W} {X : Cx} {e : Expr} {es : List Expr} {t : TDA W} {pos p' : Pos} {x : Str} {k n : Nat} {ps : List Str}
theorem de_fn {ok : OkD W} (C : Cal X.prog X.w X.K X.mg X.base x k ps (spD (cn X) W n ok)) (hr : Room k X.A) (hg : Gl X x) (ha : DA W B X (e :: es) t) (hdb : (x == ("__debug__" : Str)) = false := by decide)
    (he : starEach (e :: es) X.env = (false, eval e X.env) :: starEach es X.env := by rfl) (hpl : (backTo pos (starEach es X.env)).any (·.1) = false := by rfl) : DE W B X (.Call (.Name x p') (e :: es) [] pos) (dCall n ok t) := by
  obtain ⟨f, fd, F, m, kp, b⟩ := C.ex
  exact de_call F hr hg m kp b ha hdb he hpl
/-- a call of a plain def -/
theorem de_fnP {ok : PL} (C : Cal X.prog X.w X.K X.mg X.base x k ps (spP (cn X) n ok)) (hr : Room k X.A) (hg : Gl X x) (ha : DA W B X (e :: es) t) (hdb : (x == ("__debug__" : Str)) = false := by decide)
    (he : starEach (e :: es) X.env = (false, eval e X.env) :: starEach es X.env := by rfl) (hpl : (backTo pos (starEach es X.env)).any (·.1) = false := by rfl) : DE W B X (.Call (.Name x p') (e :: es) [] pos) (dCall n (lfP W ok) t) :=
  de_fn (C.toW W) hr hg ha hdb he hpl
end
section
variable {P : Program} {w : World} {K : PySem.W.Frag} {mg : Str → Option Value} {base : Heap} {x : Str} {ps : List Str} {st : Stmt}
/-- THE RULE for a plain def -/
theorem Def.okP {N : List Str} {k n : Nat} {ok : PL} (D : Def K mg x st ps) (S : FnScope N ps (defScope st)) (hn : ps.length = n)
    (hbody : ∀ (f : Addr) (cdv : Value) (A : Around) (outer : List PySem.Env) (s : Shared) (H : Hp) (E : XK) (B : Bs W0), Room k (A.deeper (envOfC x (defScope st) s.heap.objs.size f cdv)) →
      ∃ t, DSs W0 B (cxOf CX0 P w K mg base N x (defScope st) f cdv A outer s H E).nox (defBody st) t ∧
        ∀ ds R, ds.length = n → ok ds R → t { nx := fun _ _ => R .non, rt := fun d _ => R d } (ds.map .d ++ List.replicate (N.length - n) .un) ()) : Cal P w K mg base x (k + 1) ps (spP ⟨P, w, K⟩ n ok) :=
  D.cal fun f fd F => FnOk.toP (okD F S hn fun cdv A outer s H E B hr => by
    obtain ⟨t, h1, h2⟩ := hbody f cdv A outer s H E B hr
    exact ⟨t, h1, fun ds s R hl ho => h2 ds _ hl ho⟩)
/-- THE RULE for a def over a world -/
theorem Def.okW {W : Wld} {N : List Str} {k n : Nat} {ok : OkD W} (D : Def K mg x st ps) (S : FnScope N ps (defScope st)) (hn : ps.length = n)
    (hbody : ∀ (f : Addr) (cdv : Value) (A : Around) (outer : List PySem.Env) (s : Shared) (H : Hp) (E : XK) (B : Bs W), Room k (A.deeper (envOfC x (defScope st) s.heap.objs.size f cdv)) →
      ∃ t, DSs W B (cxOf CX0 P w K mg base N x (defScope st) f cdv A outer s H E).nox (defBody st) t ∧
        ∀ ds s R, ds.length = n → ok ds s R → t { nx := fun _ s' => R .non s', rt := R } (ds.map .d ++ List.replicate (N.length - n) .un) s) : Cal P w K mg base x (k + 1) ps (spD ⟨P, w, K⟩ W n ok) :=
  D.cal fun f fd F => okD F S hn fun cdv A outer s H E B hr => hbody f cdv A outer s H E B hr
end
end Dv

set_option Elab.async false
set_option linter.all false
set_option maxRecDepth 100000
/-! room in numbers; turns over encoded lists. -/
namespace Dv
open PySem L2
theorem _root_.L2.Room.u65 {k : Nat} {A : Around} (r : Room k A) : A.units + 65 < cLine := by have := r.un; omega
theorem _root_.L2.Room.u66 {k : Nat} {A : Around} (r : Room k A) : A.units + 66 < cLine := by have := r.un; omega
theorem _root_.L2.Room.u70 {k : Nat} {A : Around} (r : Room k A) : A.units + 70 < cLine := by have := r.un; omega
theorem CallD.imp {X : Cx} {f : Value} {p p' : PL} (h : CallD X f p) (k : ∀ ds R, p' ds R → p ds R) : CallD X f p' := by
  obtain ⟨r, hr, l⟩ := h
  exact ⟨r, hr, fun Hs H vs ds R Q hs ra hp => l Hs H vs ds R Q hs ra (k ds R hp)⟩
theorem cd_intI {X : Cx} : CallD X (.type "int") (fun ds R => ∃ i, ds = [.int i] ∧ R (.int i)) := cd_int.imp fun _ _ h => .inl h
section
variable {S α : Type} {body : D → S → (Option D → S → Prop) → Prop} {g : α → D}
theorem lc_mapg (f : α → D) {xs : List α} {acc : List D} {s : S} {Q : List D → S → Prop} (h : ∀ x ∈ xs, ∀ K : Option D → S → Prop, K (some (f x)) s → body (g x) s K) (q : Q (acc ++ xs.map f) s) : lcGo body (xs.map g) acc s Q := by
  induction xs generalizing acc with
  | nil => show Q acc s; simpa using q
  | cons x xs ih => exact h x (by simp) _ (ih (fun y hy => h y (by simp [hy])) (by simpa using q))
theorem lc_fmg (f : α → Option D) {xs : List α} {acc : List D} {s : S} {Q : List D → S → Prop} (h : ∀ x ∈ xs, ∀ K : Option D → S → Prop, K (f x) s → body (g x) s K) (q : Q (acc ++ xs.filterMap f) s) : lcGo body (xs.map g) acc s Q := by
  induction xs generalizing acc with
  | nil => show Q acc s; simpa using q
  | cons x xs ih =>
    refine h x (by simp) _ (ih (fun y hy => h y (by simp [hy])) ?_)
    rw [List.filterMap_cons] at q
    cases e : f x with
    | none => rw [e] at q; simpa using q
    | some z => rw [e] at q; simpa using q
/-- the items kept -/
theorem lc_filter (p : α → Bool) (f : α → D) {xs : List α} {acc : List D} {s : S} {Q : List D → S → Prop} (h : ∀ x ∈ xs, ∀ K : Option D → S → Prop, K (if p x then some (f x) else none) s → body (g x) s K) (q : Q (acc ++ (xs.filter p).map f) s) : lcGo body (xs.map g) acc s Q := by
  refine lc_fmg (fun x => if p x then some (f x) else none) h ?_
  have : xs.filterMap (fun x => if p x = true then some (f x) else none) = (xs.filter p).map f := by
    clear h q
    induction xs with
    | nil => rfl
    | cons x xs ih =>
      rw [List.filterMap_cons, List.filter_cons]
      cases p x <;> simp [ih]
  rw [this]
  exact q
end
theorem lc_filt {S : Type} {body : D → S → (Option D → S → Prop) → Prop} (p : D → Bool) {xs acc : List D} {s : S} {Q : List D → S → Prop} (h : ∀ x ∈ xs, ∀ K : Option D → S → Prop, K (if p x then some x else none) s → body x s K) (q : Q (acc ++ xs.filter p) s) : lcGo body xs acc s Q := by
  have := lc_filter (g := id) p id (xs := xs) (acc := acc) (s := s) (Q := Q) (body := body) h (by rw [List.map_id]; exact q)
  rwa [List.map_id] at this
/-- items of a kind, which ones is open -/
theorem lc_any {S α : Type} {g : α → D} {body : D → S → (Option D → S → Prop) → Prop} {β : Type} (f : β → D) (Pb : β → Prop) {xs : List α} {acc : List D} {s : S} {Q : List D → S → Prop} (h : ∀ x ∈ xs, ∀ K : Option D → S → Prop, (∀ b, Pb b → K (some (f b)) s) → body (g x) s K)
    (q : ∀ ys : List β, ys.length = xs.length → (∀ y ∈ ys, Pb y) → Q (acc ++ ys.map f) s) : lcGo body (xs.map g) acc s Q := by
  induction xs generalizing acc with
  | nil => show Q acc s; simpa using q [] rfl (fun _ z => by cases z)
  | cons x xs ih =>
    refine h x (by simp) _ fun b hb => ih (fun y hy => h y (by simp [hy])) fun ys hl hy => ?_
    have := q (b :: ys) (by simp [hl]) (fun y hy' => by
      rcases List.mem_cons.mp hy' with z | z
      · rw [z]; exact hb
      · exact hy y z)
    simpa using this
theorem rangeD_map (lo : Int) (n : Nat) : rangeD lo n = (List.range n).map fun k => .int (lo + (k : Nat)) := rfl
theorem shp_raw {n : Nat} {d : D} (h : shp n d = true) : ∀ v, d ≠ .raw v := fun v e => by
  subst e
  cases n <;> simp [shp] at h
section
variable {W : Wld} {α : Type} {g : α → D} {body : D → TDS W} {E : EndsD W}
/-- a loop by an invariant of what has been walked -/
theorem for_mapg (I : List α → Env → W.S → Prop) : ∀ {zs pre : List α} {ρ : Env} {s : W.S}, I pre ρ s →
    (∀ qs z rs, pre ++ zs = qs ++ z :: rs → ∀ ρ s, I qs ρ s → ∀ K : Env → W.S → Prop, (∀ ρ' s', I (qs ++ [z]) ρ' s' → K ρ' s') → body (g z) { nx := K, rt := E.rt, bk := E.nx, ct := K } ρ s) →
    (∀ ρ s, I (pre ++ zs) ρ s → E.nx ρ s) → forGo body E (zs.map g) ρ s
  | [], pre, ρ, s, h, _, q => q ρ s (by simpa using h)
  | z :: zs, pre, ρ, s, h, st, q => st pre z zs rfl ρ s h _ fun ρ' s' h' =>
    for_mapg I (zs := zs) (pre := pre ++ [z]) h' (fun qs y rs e => st qs y rs (by simpa using e)) (fun ρ s hh => q ρ s (by simpa using hh))
end
theorem for_list {W : Wld} {body : D → TDS W} {E : EndsD W} (I : List D → Env → W.S → Prop) {zs : List D} {ρ : Env} {s : W.S} (h : I [] ρ s)
    (st : ∀ qs z rs, zs = qs ++ z :: rs → ∀ ρ s, I qs ρ s → ∀ K : Env → W.S → Prop, (∀ ρ' s', I (qs ++ [z]) ρ' s' → K ρ' s') → body z { nx := K, rt := E.rt, bk := E.nx, ct := K } ρ s)
    (q : ∀ ρ s, I zs ρ s → E.nx ρ s) : forGo body E zs ρ s := by
  have := for_mapg (g := id) (body := body) (E := E) (zs := zs) (pre := []) I h (fun qs z rs e => st qs z rs (by simpa using e)) (fun ρ s hh => q ρ s (by simpa using hh))
  rwa [List.map_id] at this
theorem itemsD_tup (xs : List D) : itemsD (.tup xs) = some xs := rfl
theorem itemsD_lst (xs : List D) : itemsD (.lst xs) = some xs := rfl
theorem itemsD_dic (kvs : List (D × D)) : itemsD (.dic kvs) = some (kvs.map (·.1)) := rfl
section
variable {S α : Type} {body : D → List D → S → (List D → S → Prop) → Prop} {g : α → D}
/-- turns that each put some items in -/
theorem lc2_flat (f : α → List D) : ∀ {xs : List α} {acc : List D} {s : S} {Q : List D → S → Prop}, (∀ x ∈ xs, ∀ (acc : List D) (K : List D → S → Prop), (acc ++ f x).length ≤ sizeLine → K (acc ++ f x) s → body (g x) acc s K) →
    (acc ++ xs.flatMap f).length ≤ sizeLine → Q (acc ++ xs.flatMap f) s → lcGo2 body (xs.map g) acc s Q
  | [], acc, s, Q, _, _, q => by
    show Q acc s
    simpa using q
  | x :: xs, acc, s, Q, h, hl, q => by
    rw [List.flatMap_cons] at hl q
    refine h x (by simp) acc _ ?_ (lc2_flat f (xs := xs) (acc := acc ++ f x) (fun y hy => h y (by simp [hy])) (by simpa using hl) (by simpa using q))
    simp at hl ⊢
    omega
end
end Dv
namespace Dv
open PySem L2
theorem addP_int (i j : Int) (R : D → Prop) : addP (.int i) (.int j) R = R (.int (i + j)) := rfl
theorem addP_str (x y : Str) (R : D → Prop) : addP (.str x) (.str y) R = (x.length + y.length ≤ sizeLine ∧ R (.str (x ++ y))) := rfl
theorem addP_tup (x y : List D) (R : D → Prop) : addP (.tup x) (.tup y) R = (x.length + y.length ≤ sizeLine ∧ R (.tup (x ++ y))) := rfl
theorem addP_lst (x y : List D) (R : D → Prop) : addP (.lst x) (.lst y) R = (x.length + y.length ≤ sizeLine ∧ R (.lst (x ++ y))) := rfl
theorem cmpP_int (f : Int → Int → Bool) (g : D → D → Bool) (i j : Int) (R : D → Prop) : cmpP f g (.int i) (.int j) R = R (.bl (f i j)) := rfl
theorem intP_int (C : Int → Int → Prop) (f : Int → Int → Int) (i j : Int) (R : D → Prop) : intP C f (.int i) (.int j) R = (C i j ∧ R (.int (f i j))) := by
  refine propext ⟨fun ⟨a, b, h1, h2, h3, h4⟩ => ?_, fun h => ⟨i, j, rfl, rfl, h.1, h.2⟩⟩
  cases h1
  cases h2
  exact ⟨h3, h4⟩
theorem slD_tup (xs : List D) (lo hi : Option Int) : slD (.tup xs) lo hi = some (.tup (cutD xs lo hi)) := rfl
theorem slD_lst (xs : List D) (lo hi : Option Int) : slD (.lst xs) lo hi = some (.lst (cutD xs lo hi)) := rfl
theorem lenD_tup (xs : List D) : lenD (.tup xs) = some xs.length := rfl
theorem lenD_lst (xs : List D) : lenD (.lst xs) = some xs.length := rfl
theorem lenD_str (x : Str) : lenD (.str x) = some x.length := rfl
end Dv

set_option Elab.async false
set_option linter.all false
set_option maxRecDepth 100000
/-! The world of the laws: the dict w with the draws and the place. -/
namespace Dv
open PySem L2

def kDraws : Key := .inr "draws"
def kAt : Key := .inr "at"
def wKvs (L : Addr) (i : Int) : List (Key × V) := [(kDraws, .ref L), (kAt, .int i)]
theorem k_ne : ¬ kDraws = kAt := by decide +kernel
theorem w_at (L : Addr) (i : Int) : valV (wKvs L i) kAt = some (.int i) := by
  unfold wKvs
  rw [valV_neg k_ne, valV_pos rfl]
theorem w_draws (L : Addr) (i : Int) : valV (wKvs L i) kDraws = some (.ref L) := by
  unfold wKvs
  rw [valV_pos rfl]
theorem w_put (L : Addr) (i j : Int) : putK (wKvs L i) kAt (.int j) = wKvs L j := by
  have h : valV (wKvs L i) kAt = some (.int i) := w_at L i
  unfold wKvs putK at *
  simp [k_ne]
theorem w_merge (L : Addr) (i : Int) : mergeK [] (wKvs L i) = wKvs L i := by
  have h : ¬ kAt = kDraws := fun z => k_ne z.symm
  unfold wKvs mergeK putK
  simp [h, k_ne, putK]
/-- w, once it is made, and nothing else that changes -/
@[reducible] def Wd (K : PySem.W.Frag) : Wld where
  S := Option Addr
  own s a := s = some a
  rel s Hs H := ∀ p, s = some p → Hs p = none ∧ ∃ (L : Addr) (i : Int) (ns : List Int), H p = some (.dK (wKvs L i)) ∧ SqL K Hs L (ns.map V.int) ∧ 0 ≤ i
  keep := fun {s Hs H Hs' H'} r f n k p e => by
    obtain ⟨h1, L, i, ns, h2, h3, h4⟩ := r p e
    exact ⟨n p e h1, L, i, ns, by rw [k p e]; exact h2, f.seq h3, h4⟩
  there := fun r e q => by
    obtain ⟨_, L, i, ns, h, _⟩ := r _ e
    rw [h] at q
    cases q
end Dv
namespace Dv
open PySem L2
/-- the place is moved on -/
theorem wd_step {c : Cn} {p : Addr} {Hs H : Hp} {L : Addr} {i : Int} {ns : List Int} (r : (Wd c.K).rel (some p) Hs H) (hs : Same Hs H) (hp : H p = some (.dK (wKvs L i))) (hL : SqL c.K Hs L (ns.map V.int)) (hi : 0 ≤ i) :
    Go (Wd c.K) (some p) Hs H (some p) Hs (upd H p (.dK (wKvs L (i + 1)))) := by
  have h0 : Hs p = none := (r p rfl).1
  refine ⟨Same.refl _, fun a o q => ?_, fun _ q => .inl q, fun a o q n => ?_, fun a q => ?_, fun _ q => .inl q, fun q e => ?_⟩
  · rw [upd_ne (fun z => by rw [z, h0] at q; cases q)]
    exact hs a o q
  · rw [upd_ne (fun z => n (by rw [z]))]
    exact q
  · by_cases z : a = p
    · rw [z, upd_same]; exact fun y => nomatch y
    · rw [upd_ne z]; exact q
  · cases e
    exact ⟨h0, L, i + 1, ns, upd_same, hL, by omega⟩
abbrev OkA := List D → Option Addr → (D → Option Addr → Prop) → Prop
/-- draws: any number below n -/
def o_next : OkA := fun ds s R => ∃ (p : Addr) (n : Int), ds = [.raw (.ref p), .int n] ∧ s = some p ∧ 0 < n ∧ ∀ r : Int, 0 ≤ r → r < n → R (.int r) (some p)
/-- any of the items -/
def o_pick : OkA := fun ds s R => ∃ (p : Addr) (xs : List D), ds = [.raw (.ref p), .lst xs] ∧ s = some p ∧ xs ≠ [] ∧ ∀ x ∈ xs, R x (some p)
/-- w = {"draws": e, "at": 0} -/
def dEnter {K : PySem.W.Frag} (i : Nat) (te : TD (Wd K)) : TDS (Wd K) := fun E ρ s => s = none ∧ te ρ none fun d s1 => s1 = none ∧ ∃ ns : List Int, d = .lst (ns.map .int) ∧ ∀ p : Addr, E.nx (ρ.set i (.d (.raw (.ref p)))) (some p)
theorem ds_enter {X : Cx} {K : PySem.W.Frag} {B : Bs (Wd K)} {i : Nat} {x : Str} {e : Expr} {te : TD (Wd K)} {pos pos' p1 p2 p3 p4 : Pos} {j1 j2 j3 : Nat} (hN : X.N.Nodup) (hi : X.N[i]? = some x) (hx : Loc X.env.scope x) (he : DE (Wd K) B X e te)
    (hs : swapsWith (.Dict [some (.Constant (.str "draws") j1 p1), some (.Constant (.str "at") j2 p2)] [e, .Constant (.int 0) j3 p3] p4) (some (.Name x pos')) pos.line X.env = pure false := by rfl)
    (hf : X.fn x = true ∨ X.env.scope.names.lookup x = some .local := by first | exact .inl rfl | exact .inr rfl | assumption) (hK : X.K = K := by rfl) :
    DS (Wd K) B X (.Assign [.Name x pos'] (.Dict [some (.Constant (.str "draws") j1 p1), some (.Constant (.str "at") j2 p2)] [e, .Constant (.int 0) j3 p3] p4) pos) (dEnter i te) := by
  subst hK
  refine ⟨ps_imp (ps_set hN hi hx (pe_disp (pps_cons pe_str he.run (pps_cons pe_str pe_int pps_nil)) rfl rfl (fun z => nomatch z) (by show 2 ≤ 15; decide)) hs hf) fun D σ H h => ?_⟩
  obtain ⟨Hs, ρ, s, E, S, ⟨e0, h1⟩, k⟩ := h
  subst e0
  intro p hp
  have S1 := S.step ((Lay.mut (o := .dK []) S.sub hp).go S.rel)
  refine ⟨Hs, ρ, none, _, S1, h1, fun d s1 Hs1 H1 v hR g r => ?_⟩
  obtain ⟨e1, ns, e2, hq⟩ := hR
  subst e1 e2
  have hp1 : H1 p = some (.dK []) := g.ext p _ upd_same (fun z => nomatch z)
  have hps : Hs p = none := S.sub.free hp
  have hps1 : Hs1 p = none := by
    cases q : Hs1 p with
    | none => rfl
    | some o =>
      rcases g.new p (by rw [q]; exact fun z => nomatch z) with z | z
      · exact absurd hps z
      · rw [upd_same] at z; cases z
  cases r with
  | @lst L vs _ z hL ra =>
    have ev := rpa_ints ra
    subst ev
    refine ⟨hp1, wKvs L 0, rfl, by show 2 ≤ 15; decide, ?_⟩
    rw [w_merge]
    have gC : Go (Wd X.K) none Hs H (some p) Hs1 (upd H1 p (.dK (wKvs L 0))) := by
      refine ⟨g.fz, fun a o q => ?_, fun a q => ?_, fun a o q n => ?_, fun a q => ?_, fun a q => ?_, fun q e => ?_⟩
      · rw [upd_ne (fun z => by rw [z, hps1] at q; cases q)]
        exact g.sub a o q
      · rcases g.new a q with z | z
        · exact .inl z
        · by_cases y : a = p
          · rw [y, upd_same] at z; cases z
          · rw [upd_ne y] at z; exact .inr z
      · have y : a ≠ p := fun y => by rw [y, hp] at q; cases q
        rw [upd_ne y]
        exact g.ext a o (by rw [upd_ne y]; exact q) (fun z => nomatch z)
      · have y : a ≠ p := fun y => by rw [y] at q; exact q hp
        rw [upd_ne y]
        exact g.th a (by rw [upd_ne y]; exact q)
      · cases q
        exact .inr hp
      · cases e
        exact ⟨hps1, L, 0, ns, upd_same, hL, by decide⟩
    exact k.nx _ (some p) Hs1 _ _ (hq p) g.fz ((S.step gC).set (.raw _))
end Dv

set_option Elab.async false
set_option linter.all false
set_option maxRecDepth 100000
set_option maxHeartbeats 4000000
/-! A tuple times one. -/
namespace Dv
open PySem L2 PySem.Spec PyProof.Rows
open AutoSeq1 (wpAny_loadPart')
/-- t * 1 is t -/
theorem tup_once (l : Addr) (items : Array Value) (n : Nat) (dd : Option Addr) (sl : Array (Option Value)) (u : Tok) :
    Meets (Builtin.«tuple.__mul__» ⟨[.ref l, .int 1 u], []⟩) (fun _ R s => s.heap.get? l = some { cls := .type "tuple", dict := dd, data := .seq items n, slots := sl } ∧ R (.ok (.ret (.ref l))) s) :=
  .of_wp fun prog w A R s h => by
    obtain ⟨hp, g, d, tk, os⟩ := s
    obtain ⟨hl, h⟩ := h
    have f1 := AutoSeq1.idx_int
    wp_walk using wpAny_loadPart' hl
    exact ⟨_, rfl, h⟩
section
variable {X : Cx}
def rOnce (K : PySem.W.Frag) : R2 := fun x y H Q => ∃ l xs, x = .ref l ∧ y = .int 1 ∧ SqT K H l xs ∧ Q (.ref l) H
theorem op_once : OpR X (binaryOp .Mult) (rOnce X.K) := by
  intro pins s σ H x y v u Q I rx ry h
  obtain ⟨l, xs, rfl, rfl, hT, q⟩ := h
  cases rx
  obtain ⟨t, rfl⟩ := ry
  obtain ⟨its, r, ⟨⟨cls, dd, data, sl⟩, ho, hc, n, hd⟩, hs⟩ := I.tuple hT
  simp only at hc hd
  subst hc hd
  exact wpAny_binaryOp_repeat_ref (T := "tuple") (U := "int") (by decide) ⟨_, ho, rfl⟩ (fun s' => typeIs_int s' 1 t) noFill_tuple_mul F.fills_int_mul F.slot_int_rmul repeat_tuple F.slot_int_index.lookup
    (call_meets F.slot_int_rmul (typeIs_int s 1 t) F.entry_int_rmul (F.args_int_rmul_2 _ _) (int_rmul_tuple 1 t l its.toArray n dd sl)
      ⟨ho, rfl, ⟨_, ho, rfl⟩, call_meets F.slot_tuple_mul ⟨_, ho, rfl⟩ F.entry_tuple_mul (F.args_tuple_mul_2 _ _) (tup_once l its.toArray n dd sl t) ⟨ho, .ref l, H, I, rfl, q⟩⟩)
/-- a tuple times 1, 2, .. -/
theorem od_rep1 : OpD X (binaryOp .Mult) (fun d e R => ∃ xs n, d = .tup xs ∧ e = .int n ∧ xs ≠ [] ∧ 1 ≤ n ∧ n ≤ 1000 ∧ xs.length ≤ 1000 ∧ R (.tup (List.replicate n.toNat xs).flatten)) := by
  obtain ⟨r, hr, l⟩ := od_rep (X := X)
  refine ⟨_, hr.or op_once, fun Hs H x y d e R Q hs rx ry ⟨xs, n, h1, h2, h3, h4, h5, h6, h7⟩ k => ?_⟩
  by_cases hn : 2 ≤ n
  · exact .inl (l Hs H x y d e R Q hs rx ry ⟨xs, n, h1, h2, h3, hn, h5, h6, h7⟩ k)
  · have e1 : n = 1 := by omega
    subst e1 h1 h2
    have e2 : (List.replicate (1 : Int).toNat xs).flatten = xs := by simp
    rw [e2] at h7
    have rx2 := rx
    cases rx with
    | @tup a vs _ z hq ra => exact .inr ⟨a, vs, rfl, ry.intE, SqT_same hs hq, k _ Hs H _ h7 (Lay.refl hs) rx2⟩
end
end Dv

set_option Elab.async false
set_option linter.all false
set_option maxRecDepth 100000
/-! Plain facts of values, rows and bags. -/
namespace Bg
open PySem L2 Dv

/-- a text that a store may hold -/
abbrev Tx := { x : Str // PyData.strOk x = true }
/-- a value: None, a whole number, a text -/
inductive Vl where
  | non
  | int (i : Int)
  | str (x : Tx)
  deriving DecidableEq
abbrev Row := List Vl
def Vl.d : Vl → D
  | .non => .non
  | .int i => .int i
  | .str x => .str x.1
def rowD (r : Row) : D := .tup (r.map Vl.d)
def bagD (rs : List Row) : D := .tup (rs.map rowD)
def placeD : D → D
  | .non => .tup [.int 0, .int 0, .str ""]
  | .int i => .tup [.int 1, .int i, .str ""]
  | d => .tup [.int 2, .int 0, d]
def plV (v : Vl) : D := placeD v.d
def keyR (r : Row) : D := .tup (r.map plV)
def pairK (p : Row × Nat) : D := .tup [keyR p.1, .int (p.2 : Nat)]
def pairL (p : Row × Nat) : D := .tup [.lst (p.1.map plV), .int (p.2 : Nat)]
def ordK (p q : Row × Nat) : Bool := !ltD (pairK q) (pairK p)
def bagR (rs : List Row) : List Row := (rs.zipIdx.mergeSort ordK).map (·.1)

/-! ### tokens -/
abbrev toks (d : D) := PySem.W.keyToks d.py
theorem ltD_toks (d e : D) : ltD d e = PyProof.Rows.lexLt PyProof.Rows.itemOrd (toks d) (toks e) := rfl
theorem ltD_irrefl (d : D) : ltD d d = false := PyProof.Rows.lex_irrefl _
theorem ltD_asymm {d e : D} (h : ltD d e = true) : ltD e d = false := by
  cases q : ltD e d with
  | false => rfl
  | true =>
    have := PyProof.Rows.lex_trans (O := PyProof.Rows.itemOrd) _ _ _ h q
    exact absurd this (by rw [PyProof.Rows.lex_irrefl]; exact Bool.false_ne_true)
theorem ltD_trans {d e f : D} (h : ltD d e = true) (k : ltD e f = true) : ltD d f = true := PyProof.Rows.lex_trans (O := PyProof.Rows.itemOrd) _ _ _ h k
theorem ltD_neg {d e f : D} (h : ltD d f = true) : ltD d e = true ∨ ltD e f = true := PyProof.Rows.lex_negTrans (O := PyProof.Rows.itemOrd) _ _ _ h
theorem ordK_trans (a b c : Row × Nat) (h : ordK a b = true) (k : ordK b c = true) : ordK a c = true := by
  unfold ordK at *
  cases q : ltD (pairK c) (pairK a) with
  | false => rfl
  | true => rcases ltD_neg (e := pairK b) q with z | z <;> simp [z] at h k
theorem ordK_total (a b : Row × Nat) : (ordK a b || ordK b a) = true := by
  unfold ordK
  cases q : ltD (pairK b) (pairK a) with
  | false => rfl
  | true => simp [ltD_asymm q]
theorem pys_cons (d : D) (ds : List D) : pys (d :: ds) = d.py :: pys ds := by simp [pys]
theorem pys_nil : pys [] = [] := by simp [pys]
theorem toks_tup (ds : List D) : toks (.tup ds) = PySem.W.keyToksAll (pys ds) := by
  unfold toks
  rw [D.py, PySem.W.keyToks]
theorem toks_lst (ds : List D) : toks (.lst ds) = PySem.W.keyToksAll (pys ds) := by
  unfold toks
  rw [D.py, PySem.W.keyToks]
theorem toksAll_cons (d : D) (ds : List D) : PySem.W.keyToksAll (pys (d :: ds)) = .inl 1 :: (toks d ++ PySem.W.keyToksAll (pys ds)) := by
  rw [pys_cons, PySem.W.keyToksAll]
theorem toksAll_nil : PySem.W.keyToksAll (pys []) = [.inl 0] := by rw [pys_nil, PySem.W.keyToksAll]
theorem toks_int (i : Int) : toks (.int i) = [.inl i] := by
  unfold toks
  rw [D.py, PySem.W.keyToks]
theorem toks_str (x : Str) : toks (.str x) = [.inr x.cps.toList] := by
  unfold toks
  rw [D.py, PySem.W.keyToks]
theorem toks_pairL (p : Row × Nat) : toks (pairL p) = toks (pairK p) := by
  unfold pairL pairK keyR
  simp only [toks_tup, toks_lst, toksAll_cons]
/-- the tokens of a place -/
def plT : Vl → Int × Int × List Nat
  | .non => (0, 0, [])
  | .int i => (1, i, [])
  | .str x => (2, 0, x.1.cps.toList)
theorem plT_inj {v u : Vl} (h : plT v = plT u) : v = u := by
  cases v <;> cases u <;> simp [plT] at h ⊢
  · exact h
  · rename_i x y
    exact Subtype.ext (PySem.W.str_of_cps (Array.toList_inj.mpr h))
theorem empty_cps : ("" : Str).cps.toList = [] := by decide
theorem toks_pl (v : Vl) : toks (plV v) = [.inl 1, .inl (plT v).1, .inl 1, .inl (plT v).2.1, .inl 1, .inr (plT v).2.2, .inl 0] := by
  cases v <;> simp only [plV, Vl.d, placeD, plT] <;> simp only [toks_tup, toksAll_cons, toksAll_nil, toks_int, toks_str, empty_cps] <;> rfl
theorem key_inj : ∀ {r s : Row}, PySem.W.keyToksAll (pys (r.map plV)) = PySem.W.keyToksAll (pys (s.map plV)) → r = s
  | [], [], _ => rfl
  | [], v :: s, h => by
    rw [List.map_nil, List.map_cons, toksAll_nil, toksAll_cons] at h
    simp at h
  | v :: r, [], h => by
    rw [List.map_nil, List.map_cons, toksAll_nil, toksAll_cons] at h
    simp at h
  | v :: r, u :: s, h => by
    rw [List.map_cons, List.map_cons, toksAll_cons, toksAll_cons, toks_pl, toks_pl] at h
    simp only [List.cons_append, List.nil_append, List.cons.injEq, Sum.inl.injEq, Sum.inr.injEq, true_and] at h
    obtain ⟨h1, h2, h3, h4⟩ := h
    rw [plT_inj (Prod.ext h1 (Prod.ext h2 h3)), key_inj h4]
theorem keyR_inj {r s : Row} (h : toks (keyR r) = toks (keyR s)) : r = s := by
  unfold keyR at h
  rw [toks_tup, toks_tup] at h
  exact key_inj h
/-- rows in order -/
def leR (r s : Row) : Prop := ltD (keyR s) (keyR r) = false
theorem leR_antisymm {r s : Row} (h : leR r s) (k : leR s r) : r = s := keyR_inj (PyProof.Rows.lex_total (O := PyProof.Rows.itemOrd) _ _ k h)
theorem py_tup (ds : List D) : (D.tup ds).py = .tuple (pys ds) := by rw [D.py]
theorem alike_pl (v u : Vl) : PySem.W.alike (plV v).py (plV u).py = true := by
  cases v <;> cases u <;> simp [plV, placeD, Vl.d, D.py, pys, PySem.W.alike, PySem.W.alikeAll]
theorem alike_pls : ∀ r s : Row, PySem.W.alikeAll (pys (r.map plV)) (pys (s.map plV)) = true
  | [], _ => by rw [List.map_nil, pys_nil, PySem.W.alikeAll]
  | v :: r, [] => by rw [List.map_nil, List.map_cons, pys_nil, pys_cons, PySem.W.alikeAll]
  | v :: r, u :: s => by rw [List.map_cons, List.map_cons, pys_cons, pys_cons, PySem.W.alikeAll, alike_pl, alike_pls r s]; rfl
theorem alike_key (r s : Row) : PySem.W.alike (keyR r).py (keyR s).py = true := by
  unfold keyR
  rw [py_tup, py_tup, PySem.W.alike, alike_pls]
theorem alike_pair (p q : Row × Nat) : alikeD (pairK p) (pairK q) = true := by
  unfold alikeD pairK
  rw [py_tup, py_tup, pys_cons, pys_cons, pys_cons, pys_cons, pys_nil]
  simp [PySem.W.alike, PySem.W.alikeAll, alike_key, D.py]
theorem alike_pairL (p q : Row × Nat) : alikeD (pairL p) (pairL q) = true := by
  unfold alikeD pairL
  rw [py_tup, py_tup, pys_cons, pys_cons, pys_cons, pys_cons, pys_nil]
  simp [PySem.W.alike, PySem.W.alikeAll, alike_pls, D.py]
theorem ordK_le {p q : Row × Nat} (h : ordK p q = true) : leR p.1 q.1 := by
  unfold ordK at h
  unfold leR
  have e : ltD (pairK q) (pairK p) = false := by simpa using h
  unfold ltD pairK at e
  rw [py_tup, py_tup, pys_cons, pys_cons, pys_cons, pys_cons, pys_nil, PySem.W.dataLt_pair (alike_key q.1 p.1) (by simp [D.py, PySem.W.alike])] at e
  split at e
  · rename_i z
    rw [ltD_toks]
    show PyProof.Rows.lexLt PyProof.Rows.itemOrd (PySem.W.keyToks (keyR q.1).py) (PySem.W.keyToks (keyR p.1).py) = false
    rw [(PySem.W.toks_eqv _ _ (alike_key q.1 p.1)).1 z]
    exact PyProof.Rows.lex_irrefl _
  · exact e
theorem bagR_perm_self (rs : List Row) : (bagR rs).Perm rs := by
  unfold bagR
  have h := (List.mergeSort_perm rs.zipIdx ordK).map (·.1)
  rwa [show rs.zipIdx.map (·.1) = rs from List.zipIdx_map_fst 0 rs] at h
theorem bagR_sorted (rs : List Row) : (bagR rs).Pairwise leR := by
  unfold bagR
  rw [List.pairwise_map]
  exact (List.pairwise_mergeSort ordK_trans ordK_total rs.zipIdx).imp fun h => ordK_le h
/-- bags of the same rows are the same -/
theorem bagR_eq {rs ss : List Row} (h : rs.Perm ss) : bagR rs = bagR ss :=
  List.Perm.eq_of_pairwise (le := leR) (fun _ _ _ _ h k => leR_antisymm h k) (bagR_sorted rs) (bagR_sorted ss) (((bagR_perm_self rs).trans h).trans (bagR_perm_self ss).symm)
theorem bagR_length (rs : List Row) : (bagR rs).length = rs.length := (bagR_perm_self rs).length_eq
/-! ### sorting, as the two defs do it -/
theorem sort_pairK (rs : List Row) : sortD (rs.zipIdx.map pairK) = (rs.zipIdx.mergeSort ordK).map pairK := by
  unfold sortD
  exact (List.map_mergeSort (r := ordK) (s := fun a b => !ltD b a) (f := pairK) fun a _ b _ => rfl).symm
theorem sort_pairL (rs : List Row) : sortD (rs.zipIdx.map pairL) = (rs.zipIdx.mergeSort ordK).map pairL := by
  unfold sortD
  refine (List.map_mergeSort (r := ordK) (s := fun a b => !ltD b a) (f := pairL) fun a _ b _ => ?_).symm
  show (!ltD (pairK b) (pairK a)) = !ltD (pairL b) (pairL a)
  rw [ltD_toks, ltD_toks, toks_pairL, toks_pairL]
theorem sorted_at (rs : List Row) {p : Row × Nat} (h : p ∈ rs.zipIdx.mergeSort ordK) : rs[p.2]? = some p.1 := by
  have h := (List.mergeSort_perm rs.zipIdx ordK).mem_iff.mp h
  obtain ⟨r, k⟩ := p
  have := List.mem_zipIdx' h
  obtain ⟨h1, h2⟩ := this
  rw [List.getElem?_eq_getElem h1, h2]
end Bg

set_option Elab.async false
set_option linter.all false
set_option maxRecDepth 100000
/-! Counting rows; equality and keys of rows. -/
namespace Bg
open PySem L2 Dv

/-! ### shape, equality -/
theorem shp_vl (v : Vl) (n : Nat) : shp n v.d = true := by
  cases v with
  | non => cases n <;> rfl
  | int i => cases n <;> rfl
  | str x => cases n <;> exact x.2
theorem shp_row (r : Row) (n : Nat) : shp (n + 1) (rowD r) = true := by
  rw [rowD, shp, List.all_eq_true]
  intro d hd
  obtain ⟨v, _, rfl⟩ := List.mem_map.mp hd
  exact shp_vl v n
theorem shp_bag (rs : List Row) (n : Nat) : shp (n + 2) (bagD rs) = true := by
  rw [bagD, shp, List.all_eq_true]
  intro d hd
  obtain ⟨v, _, rfl⟩ := List.mem_map.mp hd
  exact shp_row v n
theorem eqD_vl (v u : Vl) : eqD v.d u.d = decide (v = u) := by
  cases v <;> cases u <;> simp only [eqD, Vl.d, D.py, PyData.eqv, reduceCtorEq, decide_false, decide_true, Vl.int.injEq, Vl.str.injEq]
  · rfl
  · rename_i x y
    by_cases h : x = y
    · subst h; simp
    · have : ¬ x.1 = y.1 := fun z => h (Subtype.ext z)
      simp [h, this]
theorem eqA_row : ∀ r s : Row, PyData.eqvAll (pys (r.map Vl.d)) (pys (s.map Vl.d)) = decide (r = s)
  | [], [] => by simp [pys, PyData.eqvAll]
  | [], _ :: _ => by simp [pys, PyData.eqvAll]
  | _ :: _, [] => by simp [pys, PyData.eqvAll]
  | v :: r, u :: s => by
    rw [List.map_cons, List.map_cons, pys_cons, pys_cons, PyData.eqvAll, eqA_row r s]
    have := eqD_vl v u
    rw [eqD] at this
    rw [this]
    simp
theorem eqD_row (r s : Row) : eqD (rowD r) (rowD s) = decide (r = s) := by
  rw [eqD, rowD, rowD, py_tup, py_tup, PyData.eqv, eqA_row]
theorem eqA_bag : ∀ r s : List Row, PyData.eqvAll (pys (r.map rowD)) (pys (s.map rowD)) = decide (r = s)
  | [], [] => by simp [pys, PyData.eqvAll]
  | [], _ :: _ => by simp [pys, PyData.eqvAll]
  | _ :: _, [] => by simp [pys, PyData.eqvAll]
  | v :: r, u :: s => by
    rw [List.map_cons, List.map_cons, pys_cons, pys_cons, PyData.eqvAll, eqA_bag r s]
    have := eqD_row v u
    rw [eqD] at this
    rw [this]
    simp
theorem eqD_bag (r s : List Row) : eqD (bagD r) (bagD s) = decide (r = s) := by
  rw [eqD, bagD, bagD, py_tup, py_tup, PyData.eqv, eqA_bag]
theorem inD_row (r : Row) (rs : List Row) : inD (rowD r) (rs.map rowD) = decide (r ∈ rs) := by
  rw [inD, List.any_map]
  induction rs with
  | nil => simp
  | cons s rs ih =>
    rw [List.any_cons, ih]
    show (eqD (rowD s) (rowD r) || _) = _
    rw [eqD_row]
    by_cases h : s = r <;> by_cases h2 : r ∈ rs <;> simp [h, h2]
    exact fun z => h z.symm
theorem rem_row (r : Row) (rs : List Row) : remD (rowD r) (rs.map rowD) = (rs.erase r).map rowD := by
  unfold remD Dv.placeD
  induction rs with
  | nil => rfl
  | cons s rs ih =>
    rw [List.map_cons, List.findIdx_cons, eqD_row, List.erase_cons]
    by_cases h : s = r
    · simp [h]
    · simp only [h, decide_false, cond_false, List.eraseIdx_cons_succ, List.map_cons]
      rw [ih]
      have : (s == r) = false := by simpa using h
      rw [this]
      rfl
/-! ### keys -/
def Vl.k : Vl → NestedKey
  | .non => .none
  | .int i => .num i
  | .str x => .text x.1
theorem nk_vl (v : Vl) : nk v.d = some v.k := by cases v <;> simp [Vl.d, Vl.k, nk]
theorem vlk_inj {v u : Vl} (h : v.k = u.k) : v = u := by
  cases v <;> cases u <;> simp [Vl.k] at h ⊢
  · exact h
  · exact Subtype.ext h
theorem nks_row : ∀ r : Row, nk.nks (r.map Vl.d) = some (r.map Vl.k)
  | [] => by simp [nk.nks]
  | v :: r => by rw [List.map_cons, nk.nks, nk_vl, nks_row r]; rfl
def rowK (r : Row) : NestedKey := .tup (r.map Vl.k)
theorem nk_row (r : Row) : nk (rowD r) = some (rowK r) := by rw [rowD, nk, nks_row]; rfl
theorem rowK_inj {r s : Row} (h : rowK r = rowK s) : r = s := by
  unfold rowK at h
  simp only [NestedKey.tup.injEq] at h
  exact List.map_inj_right (f := Vl.k) (fun _ _ => vlk_inj) |>.mp h
/-! ### counts -/
/-- the rows, each once, in the order they come -/
def firsts (rs : List Row) : List Row := rs.foldl (fun acc r => if r ∈ acc then acc else acc ++ [r]) []
theorem firsts_snoc (rs : List Row) (r : Row) : firsts (rs ++ [r]) = if r ∈ firsts rs then firsts rs else firsts rs ++ [r] := by
  unfold firsts
  rw [List.foldl_append]
  rfl
theorem firsts_go (s : Row) : ∀ (vs acc : List Row), s ∈ vs.foldl (fun acc r => if r ∈ acc then acc else acc ++ [r]) acc ↔ s ∈ acc ∨ s ∈ vs := by
  intro vs
  induction vs with
  | nil => intro acc; simp
  | cons v vs ih =>
    intro acc
    rw [List.foldl_cons, ih]
    by_cases h : v ∈ acc
    · rw [if_pos h]
      constructor
      · rintro (z | z)
        · exact .inl z
        · exact .inr (by simp [z])
      · rintro (z | z)
        · exact .inl z
        · rcases List.mem_cons.mp z with y | y
          · exact .inl (y ▸ h)
          · exact .inr y
    · rw [if_neg h]
      simp [or_assoc]
theorem firsts_mem (rs : List Row) (r : Row) : r ∈ firsts rs ↔ r ∈ rs := by
  unfold firsts
  rw [firsts_go]
  simp
theorem firsts_nodup (rs : List Row) : (firsts rs).Nodup := by
  rw [← List.reverse_reverse rs]
  generalize rs.reverse = us
  induction us with
  | nil => simp [firsts]
  | cons s us ih =>
    rw [List.reverse_cons, firsts_snoc]
    by_cases h : s ∈ firsts us.reverse
    · rw [if_pos h]; exact ih
    · rw [if_neg h, List.nodup_append]
      refine ⟨ih, by simp, fun a ha b hb => ?_⟩
      simp at hb
      subst hb
      exact fun z => h (z ▸ ha)
/-- as many of each -/
def spread (rs : List Row) (f : Row → Nat) : List Row := rs.flatMap fun r => List.replicate (f r) r
theorem count_spread {rs : List Row} (hn : rs.Nodup) (f : Row → Nat) (r : Row) : (spread rs f).count r = if r ∈ rs then f r else 0 := by
  unfold spread
  induction rs with
  | nil => simp
  | cons s rs ih =>
    rw [List.nodup_cons] at hn
    rw [List.flatMap_cons, List.count_append, ih hn.2, List.count_replicate]
    by_cases h : s = r
    · subst h
      simp [hn.1]
    · have h' : ¬ r = s := fun z => h z.symm
      simp [h, h']
/-- what is left of one when the rows of other are taken from it, one by one -/
def lessGo : List Row → List Row → List Row
  | _, [] => []
  | left, r :: rs => if r ∈ left then lessGo (left.erase r) rs else r :: lessGo left rs
theorem count_lessGo (r : Row) : ∀ (one left : List Row), (lessGo left one).count r = one.count r - left.count r
  | [], left => by simp [lessGo]
  | s :: one, left => by
    rw [lessGo]
    by_cases h : s ∈ left
    · rw [if_pos h, count_lessGo r one, List.count_cons, List.count_erase]
      have : 0 < left.count s := List.count_pos_iff.mpr h
      by_cases e : s = r
      · subst e
        simp
        omega
      · have e' : ¬ r = s := fun z => e z.symm
        simp [e, e']
    · rw [if_neg h, List.count_cons, count_lessGo r one, List.count_cons]
      by_cases e : s = r
      · subst e
        have : left.count s = 0 := List.count_eq_zero.mpr h
        simp
        omega
      · simp [e]
theorem less_perm (a b : List Row) : (spread (firsts a) fun r => a.count r - b.count r).Perm (lessGo b a) := by
  rw [List.perm_iff_count]
  intro r
  rw [count_spread (firsts_nodup a), count_lessGo]
  by_cases h : r ∈ firsts a
  · rw [if_pos h]
  · rw [if_neg h]
    have : a.count r = 0 := List.count_eq_zero.mpr fun z => h ((firsts_mem a r).mpr z)
    omega
theorem common_perm (a b : List Row) : (spread (firsts a) fun r => min (a.count r) (b.count r)).Perm (lessGo (bagR (lessGo b a)) a) := by
  rw [List.perm_iff_count]
  intro r
  rw [count_spread (firsts_nodup a), count_lessGo, (bagR_perm_self _).count_eq, count_lessGo]
  by_cases h : r ∈ firsts a
  · rw [if_pos h]; omega
  · rw [if_neg h]
    have : a.count r = 0 := List.count_eq_zero.mpr fun z => h ((firsts_mem a r).mpr z)
    omega
end Bg
namespace Bg
open PySem L2 Dv
/-! ### kinds -/
def isNum : D → Bool
  | .int _ => true
  | _ => false
/-- a letter -/
def azD (d : D) : Bool := !ltD d (.str "a") && !ltD (.str "z") d
def isTextD : D → Bool
  | .str x => (signsD x).all azD
  | _ => false
end Bg

set_option Elab.async false
set_option linter.all false
set_option maxRecDepth 100000
/-! What the defs of values and bags meet. -/
namespace Bg
open PySem L2 Dv
theorem vl_raw (v : Vl) : ∀ u, v.d ≠ .raw u := shp_raw (shp_vl v 0)
theorem enum_rows (rs : List Row) : enumD (rs.map rowD) = rs.zipIdx.map fun p => .tup [.int (p.2 : Nat), rowD p.1] := by
  unfold enumD
  rw [List.zipIdx_map, List.map_map]
  rfl
theorem places_row (r : Row) : (r.map Vl.d).map placeD = r.map plV := by rw [List.map_map]; rfl
theorem strOk_empty : PyData.strOk ("" : Str) = true := by decide +kernel
theorem shp_int (n : Nat) (i : Int) : shp n (.int i) = true := by cases n <;> simp [shp]
theorem shp_str (n : Nat) (x : Str) : shp n (.str x) = PyData.strOk x := by cases n <;> simp [shp]
theorem shp_non (n : Nat) : shp n .non = true := by cases n <;> simp [shp]
theorem shp_bl (n : Nat) (b : Bool) : shp n (.bl b) = true := by cases n <;> simp [shp]
theorem shp_pl (v : Vl) (n : Nat) : shp (n + 1) (plV v) = true := by
  cases v <;> simp [plV, Vl.d, placeD, shp, shp_int, shp_str, strOk_empty]
  rename_i x
  exact x.2
theorem shp_pls (r : Row) (n : Nat) : (r.map plV).all (shp (n + 1)) = true := by
  rw [List.all_eq_true]
  intro d hd
  obtain ⟨v, _, rfl⟩ := List.mem_map.mp hd
  exact shp_pl v n
theorem sortOk_pairK (rs : List Row) : SortOk 4 (rs.zipIdx.map pairK) where
  shp := fun x hx => by
    obtain ⟨p, _, rfl⟩ := List.mem_map.mp hx
    rw [pairK, keyR, shp]
    simp only [List.all_cons, List.all_nil, Bool.and_true, shp, shp_pls, Bool.and_self]
  alike := fun x hx y hy => by
    obtain ⟨p, _, rfl⟩ := List.mem_map.mp hx
    obtain ⟨q, _, rfl⟩ := List.mem_map.mp hy
    exact alike_pair p q
  kind := .inl fun x hx => by
    obtain ⟨p, _, rfl⟩ := List.mem_map.mp hx
    exact ⟨_, _, rfl⟩
theorem sortOk_pairL (rs : List Row) : SortOk 4 (rs.zipIdx.map pairL) where
  shp := fun x hx => by
    obtain ⟨p, _, rfl⟩ := List.mem_map.mp hx
    rw [pairL, shp]
    simp only [List.all_cons, List.all_nil, Bool.and_true, shp, shp_pls, Bool.and_self]
  alike := fun x hx y hy => by
    obtain ⟨p, _, rfl⟩ := List.mem_map.mp hx
    obtain ⟨q, _, rfl⟩ := List.mem_map.mp hy
    exact alike_pairL p q
  kind := .inl fun x hx => by
    obtain ⟨p, _, rfl⟩ := List.mem_map.mp hx
    exact ⟨_, _, rfl⟩
def isValD (d : D) : Bool := isN d || isNum d || isTextD d
theorem sign_shp {x : Str} (h : shp 8 (.str x) = true) : ∀ s ∈ signsD x, shp 8 s = true := fun s hs => by
  obtain ⟨k, hk, rfl⟩ := List.mem_map.mp hs
  have h1 : PyData.strOk x = true := h
  show PyData.strOk ⟨#[k]⟩ = true
  unfold PyData.strOk at *
  rw [Array.all_eq_true_iff_forall_mem] at h1
  have := h1 k (by simpa using hk)
  simpa using this
end Bg
namespace Bg
open PySem L2 Dv
def isRowD (d : D) (n : Int) : Bool := match d with
  | .tup xs => decide ((xs.length : Int) = n) && xs.all isValD
  | _ => false
/-- d is a bag of rows of n places -/
def IsBag (d : D) (n : Int) : Prop := ∃ rs, d = bagD rs ∧ (∀ r ∈ rs, isRowD (rowD r) n = true) ∧ bagR rs = rs
theorem val_of {d : D} (hs : shp 8 d = true) (h : isValD d = true) : ∃ v : Vl, d = v.d := by
  cases d with
  | non => exact ⟨.non, rfl⟩
  | int i => exact ⟨.int i, rfl⟩
  | str x => exact ⟨.str ⟨x, by rwa [shp_str] at hs⟩, rfl⟩
  | raw v => exact absurd rfl (shp_raw hs v)
  | _ => cases h
theorem vals_of : ∀ {xs : List D}, (∀ x ∈ xs, shp 8 x = true) → (∀ x ∈ xs, isValD x = true) → ∃ r : Row, xs = r.map Vl.d
  | [], _, _ => ⟨[], rfl⟩
  | x :: xs, hs, h => by
    obtain ⟨v, rfl⟩ := val_of (hs x (by simp)) (h x (by simp))
    obtain ⟨r, rfl⟩ := vals_of (xs := xs) (fun y hy => hs y (by simp [hy])) (fun y hy => h y (by simp [hy]))
    exact ⟨v :: r, rfl⟩
theorem shp_up : ∀ {n : Nat} {d : D}, shp n d = true → shp (n + 1) d = true
  | n, .non, _ => shp_non _
  | n, .bl b, _ => shp_bl _ b
  | n, .int i, _ => shp_int _ i
  | n, .str x, h => by rw [shp_str] at *; exact h
  | 0, .tup xs, h => by simp [shp] at h
  | n + 1, .tup xs, h => by
    rw [shp, List.all_eq_true] at *
    exact fun x hx => shp_up (h x hx)
  | 0, .lst xs, h => by simp [shp] at h
  | n + 1, .lst xs, h => by
    rw [shp, List.all_eq_true] at *
    exact fun x hx => shp_up (h x hx)
  | n, .dic _, h => by cases n <;> simp [shp] at h
  | n, .raw _, h => by cases n <;> simp [shp] at h
theorem shp_le {n m : Nat} {d : D} (h : shp n d = true) (k : n ≤ m) : shp m d = true := by
  induction k with
  | refl => exact h
  | step _ ih => exact shp_up ih
theorem row_of {d : D} {n : Int} (hs : shp 8 d = true) (h : isRowD d n = true) : ∃ r : Row, d = rowD r := by
  cases d with
  | tup xs =>
    rw [isRowD, Bool.and_eq_true, List.all_eq_true] at h
    rw [shp, List.all_eq_true] at hs
    obtain ⟨r, rfl⟩ := vals_of (fun x hx => shp_up (hs x hx)) h.2
    exact ⟨r, rfl⟩
  | _ => cases h
theorem rows_of {n : Int} : ∀ {xs : List D}, (∀ x ∈ xs, shp 8 x = true) → (∀ x ∈ xs, isRowD x n = true) → ∃ rs : List Row, xs = rs.map rowD
  | [], _, _ => ⟨[], rfl⟩
  | x :: xs, hs, h => by
    obtain ⟨v, rfl⟩ := row_of (hs x (by simp)) (h x (by simp))
    obtain ⟨r, rfl⟩ := rows_of (xs := xs) (fun y hy => hs y (by simp [hy])) (fun y hy => h y (by simp [hy]))
    exact ⟨v :: r, rfl⟩
theorem rowD_inj {r s : Row} (h : rowD r = rowD s) : r = s := by
  have := eqD_row r s
  rw [h] at this
  have e := eqD_row s s
  rw [this] at e
  simpa using e
theorem bagD_inj {rs ss : List Row} (h : bagD rs = bagD ss) : rs = ss := by
  have := eqD_bag rs ss
  rw [h] at this
  have e := eqD_bag ss ss
  rw [this] at e
  simpa using e
/-- a truth value or None -/
def isTr : D → Bool
  | .non => true
  | .bl _ => true
  | _ => false
def sameV (a b : Vl) : D := if a = .non ∨ b = .non then .non else .bl (decide (a = b))
def belowV (a b : Vl) : D := if a = .non ∨ b = .non then .non else .bl (ltD (plV a) (plV b))
def noD : D → D
  | .bl b => .bl (!b)
  | _ => .non
def bothD : D → D → D
  | .bl false, _ => .bl false
  | _, .bl false => .bl false
  | .bl true, .bl true => .bl true
  | _, _ => .non
def eitherD : D → D → D
  | .bl true, _ => .bl true
  | _, .bl true => .bl true
  | .bl false, .bl false => .bl false
  | _, _ => .non
end Bg

set_option Elab.async false
set_option linter.all false
set_option maxRecDepth 100000
/-! Dicts of rows. -/
namespace Bg
open PySem L2 Dv
/-- a dict by rows -/
def rowsD (fs : List Row) (f : Row → D) : List (D × D) := fs.map fun r => (rowD r, f r)
theorem tupK_rows (fs : List Row) (f : Row → D) : tupK (rowsD fs f) := fun p hp => by
  obtain ⟨r, _, rfl⟩ := List.mem_map.mp hp
  exact ⟨shp_row r 7, _, rfl⟩
theorem dfind_rows (f : Row → D) (r : Row) : ∀ fs : List Row, dfind (rowsD fs f) (rowK r) = if r ∈ fs then some (f r) else none
  | [] => rfl
  | s :: fs => by
    have ih := dfind_rows f r fs
    unfold dfind rowsD at *
    rw [List.map_cons, List.find?_cons]
    simp only [nk_row]
    by_cases h : s = r
    · subst h; simp
    · have h1 : ¬ some (rowK s) = some (rowK r) := fun z => h (rowK_inj (Option.some.inj z))
      have h2 : ¬ r = s := fun z => h z.symm
      simp only [h1, decide_false]
      rw [ih]
      simp [h2]
theorem dput_rows (fs : List Row) (f : Row → D) (r : Row) (d : D) : dput (rowsD fs f) (rowD r) (rowK r) d = rowsD (if r ∈ fs then fs else fs ++ [r]) (fun s => if s = r then d else f s) := by
  unfold dput
  rw [dfind_rows]
  by_cases h : r ∈ fs
  · rw [if_pos h, if_pos h]
    show List.map _ _ = _
    unfold rowsD
    rw [List.map_map]
    refine List.map_congr_left fun s _ => ?_
    show (if nk (rowD s) = some (rowK r) then (rowD s, d) else (rowD s, f s)) = (rowD s, if s = r then d else f s)
    rw [nk_row]
    by_cases e : s = r
    · subst e; simp
    · have : ¬ some (rowK s) = some (rowK r) := fun z => e (rowK_inj (Option.some.inj z))
      simp [e, this]
  · rw [if_neg h, if_neg h]
    simp only [Option.isSome_none, Bool.false_eq_true, if_false]
    unfold rowsD
    rw [List.map_append, List.map_cons, List.map_nil]
    simp only [if_true]
    congr 1
    refine List.map_congr_left fun s hs => ?_
    have : ¬ s = r := fun z => h (z ▸ hs)
    rw [if_neg this]
/-- the counts of rows -/
def countD (rs : List Row) (r : Row) : D := .int (rs.count r : Nat)
def countsD (rs : List Row) : List (D × D) := rowsD (firsts rs) (countD rs)
theorem counts_snoc (rs : List Row) (r : Row) : dput (countsD rs) (rowD r) (rowK r) (.int ((rs.count r : Nat) + 1)) = countsD (rs ++ [r]) := by
  unfold countsD
  rw [dput_rows, firsts_snoc]
  unfold rowsD
  refine List.map_congr_left fun s _ => ?_
  congr 1
  unfold countD
  rw [List.count_append]
  by_cases h : s = r
  · subst h
    simp
  · have : ¬ r = s := fun z => h z.symm
    simp [h, this]
theorem counts_get (rs : List Row) (r : Row) : (dfind (countsD rs) (rowK r)).getD (.int 0) = .int (rs.count r : Nat) := by
  unfold countsD
  rw [dfind_rows]
  by_cases h : r ∈ firsts rs
  · rw [if_pos h]; rfl
  · rw [if_neg h]
    have : rs.count r = 0 := List.count_eq_zero.mpr fun z => h ((firsts_mem rs r).mpr z)
    rw [this]
    rfl
theorem firsts_len (rs : List Row) : (firsts rs).length ≤ rs.length := by
  rw [← List.reverse_reverse rs]
  generalize rs.reverse = us
  induction us with
  | nil => simp [firsts]
  | cons s us ih =>
    rw [List.reverse_cons, firsts_snoc, List.length_append]
    split
    · omega
    · rw [List.length_append]; simpa using ih
theorem countsD_len (rs : List Row) : (countsD rs).length ≤ rs.length := by
  unfold countsD rowsD
  rw [List.length_map]
  exact firsts_len rs
theorem dmerge_go (f : Row → D) : ∀ (fs gs : List Row), (gs ++ fs).Nodup → dmerge (rowsD gs f) (rowsD fs f) = rowsD (gs ++ fs) f
  | [], gs, _ => by rw [List.append_nil]; rfl
  | r :: fs, gs, h => by
    have hr : r ∉ gs := fun z => by
      rw [List.nodup_append] at h
      exact h.2.2 r z r (by simp) rfl
    have e : dmerge (rowsD gs f) (rowsD (r :: fs) f) = dmerge (dput (rowsD gs f) (rowD r) (rowK r) (f r)) (rowsD fs f) := by
      show List.foldl _ _ _ = List.foldl _ _ _
      unfold rowsD
      rw [List.map_cons, List.foldl_cons, nk_row]
    rw [e, dput_rows, if_neg hr]
    have e2 : rowsD (gs ++ [r]) (fun s => if s = r then f r else f s) = rowsD (gs ++ [r]) f := by
      unfold rowsD
      refine List.map_congr_left fun s _ => ?_
      congr 1
      by_cases z : s = r
      · simp [z]
      · simp [z]
    rw [e2, dmerge_go f fs (gs ++ [r]) (by simpa using h)]
    simp
theorem dmerge_rows (f : Row → D) {fs : List Row} (h : fs.Nodup) : dmerge [] (rowsD fs f) = rowsD fs f := dmerge_go f fs [] (by simpa using h)
theorem lt_pl (a b : Vl) {R : D → Prop} (h : R (.bl (ltD (plV a) (plV b)))) : cmpP (fun i j => decide (i < j)) ltD (placeD a.d) (placeD b.d) R := by
  have key : ∀ d e : D, d = plV a → e = plV b → cmpP (fun i j => decide (i < j)) ltD d e R := fun d e h1 h2 => by
    unfold cmpP
    split
    · exfalso
      cases a <;> cases h1
    · exact ⟨4, by decide, by rw [h1]; exact shp_pl a 3, by rw [h2]; exact shp_pl b 3, by rw [h1, h2]; exact alike_pl a b, by rw [h1]; cases a <;> exact (fun z => nomatch z), by rw [h1, h2]; exact h⟩
  exact key _ _ rfl rfl
end Bg
namespace Bg
open PySem L2 Dv
/-- made of None, truths, numbers, texts and tuples, of at most n - 1 layers -/
def smOk : Nat → D → Bool
  | 0, _ => false
  | _ + 1, .non => true
  | _ + 1, .bl _ => true
  | _ + 1, .int _ => true
  | _ + 1, .str x => PyData.strOk x
  | n + 1, .tup xs => xs.all (smOk n)
  | _ + 1, _ => false
theorem smOk_shp : ∀ {n : Nat} {d : D}, smOk n d = true → shp n d = true
  | 0, _, h => by simp [smOk] at h
  | n + 1, .non, _ => shp_non _
  | n + 1, .bl _, _ => shp_bl _ _
  | n + 1, .int _, _ => shp_int _ _
  | n + 1, .str x, h => by rw [shp_str]; rw [smOk] at h; exact h
  | n + 1, .tup xs, h => by
    rw [smOk, List.all_eq_true] at h
    rw [shp, List.all_eq_true]
    exact fun x hx => smOk_shp (h x hx)
  | n + 1, .lst _, h => by simp [smOk] at h
  | n + 1, .dic _, h => by simp [smOk] at h
  | n + 1, .raw _, h => by simp [smOk] at h
end Bg
namespace Bg
open PySem L2 Dv
theorem eqvAll_refl : ∀ {ds : List D}, (∀ d ∈ ds, PyData.eqv d.py d.py = true) → PyData.eqvAll (pys ds) (pys ds) = true
  | [], _ => by simp [pys, PyData.eqvAll]
  | d :: ds, h => by
    rw [pys_cons, PyData.eqvAll, h d (by simp), eqvAll_refl fun x hx => h x (by simp [hx])]
    rfl
theorem smOk_eq : ∀ {n : Nat} {d : D}, smOk n d = true → eqD d d = true
  | 0, _, h => by simp [smOk] at h
  | n + 1, .non, _ => by simp [eqD, D.py, PyData.eqv]
  | n + 1, .bl _, _ => by simp [eqD, D.py, PyData.eqv]
  | n + 1, .int _, _ => by simp [eqD, D.py, PyData.eqv]
  | n + 1, .str x, h => by simp [eqD, D.py, PyData.eqv]
  | n + 1, .tup xs, h => by
    rw [smOk, List.all_eq_true] at h
    rw [eqD, py_tup, PyData.eqv]
    exact eqvAll_refl fun x hx => smOk_eq (h x hx)
  | n + 1, .lst _, h => by simp [smOk] at h
  | n + 1, .dic _, h => by simp [smOk] at h
  | n + 1, .raw _, h => by simp [smOk] at h
theorem eq_int (i j : Int) : eqD (.int i) (.int j) = decide (i = j) := by simp [eqD, D.py, PyData.eqv]; rfl
theorem eq_bl (a b : Bool) : eqD (.bl a) (.bl b) = (a == b) := by simp [eqD, D.py, PyData.eqv]
theorem eq_nil (xs : List D) : eqD (.lst xs) (.lst []) = xs.isEmpty := by cases xs <;> simp [eqD, D.py, PyData.eqv, pys, PyData.eqvAll]
theorem shp_lst (n : Nat) (xs : List D) : shp (n + 1) (.lst xs) = xs.all (shp n) := by rw [shp]
theorem shp_tup (n : Nat) (xs : List D) : shp (n + 1) (.tup xs) = xs.all (shp n) := by rw [shp]
end Bg
namespace Bg
open PySem L2 Dv
def atL (rs : List Row) (j : Nat) : D := match rs[j]? with
  | some r => pairL (r, j)
  | none => .non
theorem atL_eq {rs : List Row} {j : Nat} {r : Row} (h : rs[j]? = some r) : atL rs j = pairL (r, j) := by
  unfold atL
  rw [h]
theorem range_atL (rs : List Row) : (List.range rs.length).map (atL rs) = rs.zipIdx.map pairL := by
  refine List.ext_getElem? fun j => ?_
  rw [List.getElem?_map, List.getElem?_map, List.getElem?_zipIdx]
  by_cases h : j < rs.length
  · rw [List.getElem?_range h, List.getElem?_eq_getElem h]
    simp only [Option.map_some]
    rw [atL_eq (List.getElem?_eq_getElem h)]
    simp
  · rw [List.getElem?_eq_none (by simpa using h), List.getElem?_eq_none (by simpa using h)]
    rfl
end Bg
namespace Bg
open PySem L2 Dv
/-- a tuple of n places -/
def widD (n : Int) (d : D) : Bool := match d with
  | .tup ys => decide ((ys.length : Int) = n)
  | _ => false
theorem wid_row {d : D} {n : Int} (h : isRowD d n = true) : widD n d = true := by
  cases d with
  | tup xs =>
    rw [isRowD, Bool.and_eq_true] at h
    exact h.1
  | _ => cases h
end Bg
namespace Bg
open PySem L2 Dv
/-- the values that the law puts into rows -/
def txV (x : Str) (h : PyData.strOk x = true) : Vl := .str ⟨x, h⟩
def pickV : List Vl := [.non, .int 0, .int (-2), .int 7, txV "" (by decide +kernel), txV "a" (by decide +kernel), txV "ab" (by decide +kernel), txV "b" (by decide +kernel)]
end Bg
namespace Bg
open PySem L2 Dv
/-- what may be bent: None, numbers, texts, tuples of at most 1000, of at most n - 1 layers -/
def bnOk : Nat → D → Bool
  | 0, _ => false
  | _ + 1, .non => true
  | _ + 1, .int _ => true
  | _ + 1, .str x => PyData.strOk x
  | n + 1, .tup xs => decide (xs.length ≤ 1000) && xs.all (bnOk n)
  | _ + 1, _ => false
theorem bnOk_shp : ∀ {n : Nat} {d : D}, bnOk n d = true → shp n d = true
  | 0, _, h => by simp [bnOk] at h
  | n + 1, .non, _ => shp_non _
  | n + 1, .bl _, h => by simp [bnOk] at h
  | n + 1, .int _, _ => shp_int _ _
  | n + 1, .str x, h => by rw [shp_str]; rw [bnOk] at h; exact h
  | n + 1, .tup xs, h => by
    rw [bnOk, Bool.and_eq_true, List.all_eq_true] at h
    rw [shp, List.all_eq_true]
    exact fun x hx => bnOk_shp (h.2 x hx)
  | n + 1, .lst _, h => by simp [bnOk] at h
  | n + 1, .dic _, h => by simp [bnOk] at h
  | n + 1, .raw _, h => by simp [bnOk] at h
theorem mem_cutD {xs : List D} {lo hi : Option Int} {x : D} (h : x ∈ cutD xs lo hi) : x ∈ xs := by
  unfold cutD at h
  exact List.mem_of_mem_drop (List.mem_of_mem_take h)
theorem bn_row (r : Row) (n : Nat) (h : r.length ≤ 1000) : bnOk (n + 2) (rowD r) = true := by
  rw [rowD, bnOk, Bool.and_eq_true, List.all_eq_true]
  refine ⟨by simpa using h, fun d hd => ?_⟩
  obtain ⟨v, _, rfl⟩ := List.mem_map.mp hd
  cases v with
  | non => rfl
  | int i => rfl
  | str x => exact x.2
theorem bn_bag (rs : List Row) (n : Nat) (h : rs.length ≤ 1000) (k : ∀ r ∈ rs, r.length ≤ 1000) : bnOk (n + 3) (bagD rs) = true := by
  rw [bagD, bnOk, Bool.and_eq_true, List.all_eq_true]
  refine ⟨by simpa using h, fun d hd => ?_⟩
  obtain ⟨r, hr, rfl⟩ := List.mem_map.mp hd
  exact bn_row r n (k r hr)
end Bg
namespace Bg
open PySem L2 Dv
theorem addP_bag (A B : List Row) (R : D → Prop) : addP (bagD A) (bagD B) R = (A.length + B.length ≤ sizeLine ∧ R (bagD (A ++ B))) := by
  unfold bagD
  rw [addP_tup, List.length_map, List.length_map, List.map_append]
theorem sm_vl (v : Vl) (n : Nat) : smOk (n + 1) v.d = true := by
  cases v with
  | non => rfl
  | int i => rfl
  | str x => exact x.2
theorem sm_row (r : Row) (n : Nat) : smOk (n + 2) (rowD r) = true := by
  rw [rowD, smOk, List.all_eq_true]
  intro d hd
  obtain ⟨v, _, rfl⟩ := List.mem_map.mp hd
  exact sm_vl v n
theorem sm_bag (rs : List Row) (n : Nat) : smOk (n + 3) (bagD rs) = true := by
  rw [bagD, smOk, List.all_eq_true]
  intro d hd
  obtain ⟨v, _, rfl⟩ := List.mem_map.mp hd
  exact sm_row v n
theorem lessGo_len : ∀ (one left : List Row), (lessGo left one).length ≤ one.length
  | [], left => by simp [lessGo]
  | r :: one, left => by
    rw [lessGo]
    split
    · have := lessGo_len one (left.erase r)
      simp
      omega
    · have := lessGo_len one left
      simp
      omega
def atR (A : List Row) (k : Nat) : Row := A[k]?.getD []
theorem firsts_range (A : List Row) : ((List.range A.length).filter fun k => decide (atR A k ∉ A.take k)).map (atR A) = firsts A := by
  rw [← List.reverse_reverse A]
  generalize A.reverse = us
  induction us with
  | nil => rfl
  | cons r us ih =>
    rw [List.reverse_cons]
    generalize us.reverse = B at *
    have e1 : (B ++ [r]).length = B.length + 1 := by simp
    have e2 : ∀ k, k < B.length → atR (B ++ [r]) k = atR B k := fun k hk => by
      unfold atR
      rw [List.getElem?_append_left hk]
    have e3 : ∀ k, k < B.length → (B ++ [r]).take k = B.take k := fun k hk => List.take_append_of_le_length (by omega)
    have e4 : (List.range B.length).filter (fun k => decide (atR (B ++ [r]) k ∉ (B ++ [r]).take k)) = (List.range B.length).filter fun k => decide (atR B k ∉ B.take k) := by
      refine List.filter_congr fun k hk => ?_
      have hk : k < B.length := by simpa using hk
      rw [e2 k hk, e3 k hk]
    have e5 : ((List.range B.length).filter fun k => decide (atR B k ∉ B.take k)).map (atR (B ++ [r])) = firsts B := by
      rw [← ih]
      refine List.map_congr_left fun k hk => ?_
      have hk : k < B.length := by simpa using (List.mem_filter.mp hk).1
      exact e2 k hk
    have e6 : atR (B ++ [r]) B.length = r := by simp [atR]
    have e7 : (B ++ [r]).take B.length = B := by simp
    rw [e1, List.range_succ, List.filter_append, List.map_append, e4, e5, firsts_snoc, List.filter_cons, e6, e7]
    by_cases h : r ∈ B
    · rw [if_neg (by simpa using h), if_pos ((firsts_mem B r).mpr h)]
      simp
    · rw [if_pos (by simpa using h), if_neg (fun z => h ((firsts_mem B r).mp z))]
      simp [e6]
end Bg
namespace Bg
open PySem L2 Dv
theorem cut_take (xs : List D) {k : Nat} (h : k ≤ xs.length) : cutD xs none (some (k : Int)) = xs.take k := by
  unfold cutD
  rw [HT.sIx_none, HT.sIx_nat, Nat.min_eq_left h]
  simp
theorem sm_pl (v : Vl) (n : Nat) : smOk (n + 2) (plV v) = true := by
  cases v <;> simp [plV, Vl.d, placeD, smOk, strOk_empty]
  rename_i x
  exact x.2
theorem isN_vl (v : Vl) : isN v.d = decide (v = .non) := by cases v <;> rfl
theorem atR_eq {A : List Row} {k : Nat} (h : k < A.length) : A[k]? = some (atR A k) := by
  unfold atR
  rw [List.getElem?_eq_getElem h]
  rfl
theorem count_filter (rs : List Row) (r : Row) : (rs.filter fun s => decide (s = r)).length = rs.count r := by
  rw [← List.countP_eq_length_filter, List.count]
  congr 1
  funext s
  rw [Bool.eq_iff_iff]
  simp
end Bg

set_option Elab.async false
set_option linter.all false
set_option maxRecDepth 100000
set_option maxHeartbeats 1000000
namespace K00
open PySem L2 PyProof.Rows Dv Bg
def top (i : Nat) : Stmt := PySem.Challenge.pw_storesagree_k00_values_and_bags.main.body.getD i (.Pass ⟨0, 0, 0, 0⟩)

abbrev s_is_number : Stmt := top 1
theorem sc_is_number : FnScope ["thing"] ["thing"] (defScope s_is_number) := ⟨rfl, rfl, rfl, by decide +kernel, rfl, by decide +kernel, by decide +kernel⟩
abbrev s_is_text : Stmt := top 3
theorem sc_is_text : FnScope ["thing", "sign"] ["thing"] (defScope s_is_text) := ⟨rfl, rfl, rfl, by decide +kernel, rfl, by decide +kernel, by decide +kernel⟩
abbrev s_is_value : Stmt := top 5
theorem sc_is_value : FnScope ["thing"] ["thing"] (defScope s_is_value) := ⟨rfl, rfl, rfl, by decide +kernel, rfl, by decide +kernel, by decide +kernel⟩
abbrev s_place_in_order : Stmt := top 6
theorem sc_place_in_order : FnScope ["value"] ["value"] (defScope s_place_in_order) := ⟨rfl, rfl, rfl, by decide +kernel, rfl, by decide +kernel, by decide +kernel⟩
abbrev s_row_order : Stmt := top 7
theorem sc_row_order : FnScope ["row", "value"] ["row"] (defScope s_row_order) := ⟨rfl, rfl, rfl, by decide +kernel, rfl, by decide +kernel, by decide +kernel⟩
abbrev s_bag : Stmt := top 8
theorem sc_bag : FnScope ["rows", "told", "every", "k", "row", "_"] ["rows"] (defScope s_bag) := ⟨rfl, rfl, rfl, by decide +kernel, rfl, by decide +kernel, by decide +kernel⟩
abbrev s_is_row : Stmt := top 9
theorem sc_is_row : FnScope ["thing", "width", "one"] ["thing", "width"] (defScope s_is_row) := ⟨rfl, rfl, rfl, by decide +kernel, rfl, by decide +kernel, by decide +kernel⟩
abbrev s_is_bag : Stmt := top 10
theorem sc_is_bag : FnScope ["thing", "width", "row"] ["thing", "width"] (defScope s_is_bag) := ⟨rfl, rfl, rfl, by decide +kernel, rfl, by decide +kernel, by decide +kernel⟩
abbrev s_count_in : Stmt := top 11
theorem sc_count_in : FnScope ["rows", "row", "own"] ["rows", "row"] (defScope s_count_in) := ⟨rfl, rfl, rfl, by decide +kernel, rfl, by decide +kernel, by decide +kernel⟩
abbrev s_counts_of : Stmt := top 12
theorem sc_counts_of : FnScope ["rows", "found", "row"] ["rows"] (defScope s_counts_of) := ⟨rfl, rfl, rfl, by decide +kernel, rfl, by decide +kernel, by decide +kernel⟩
abbrev s_bag_of : Stmt := top 13
theorem sc_bag_of : FnScope ["counts", "row", "_"] ["counts"] (defScope s_bag_of) := ⟨rfl, rfl, rfl, by decide +kernel, rfl, by decide +kernel, by decide +kernel⟩
abbrev s_both_bags : Stmt := top 14
theorem sc_both_bags : FnScope ["one", "other"] ["one", "other"] (defScope s_both_bags) := ⟨rfl, rfl, rfl, by decide +kernel, rfl, by decide +kernel, by decide +kernel⟩
abbrev s_less_bags : Stmt := top 15
theorem sc_less_bags : FnScope ["one", "other", "first", "second", "row"] ["one", "other"] (defScope s_less_bags) := ⟨rfl, rfl, rfl, by decide +kernel, rfl, by decide +kernel, by decide +kernel⟩
abbrev s_common_bags : Stmt := top 16
theorem sc_common_bags : FnScope ["one", "other", "first", "second", "row"] ["one", "other"] (defScope s_common_bags) := ⟨rfl, rfl, rfl, by decide +kernel, rfl, by decide +kernel, by decide +kernel⟩
abbrev s_once_bag : Stmt := top 17
theorem sc_once_bag : FnScope ["one"] ["one"] (defScope s_once_bag) := ⟨rfl, rfl, rfl, by decide +kernel, rfl, by decide +kernel, by decide +kernel⟩
abbrev s_same : Stmt := top 18
theorem sc_same : FnScope ["a", "b"] ["a", "b"] (defScope s_same) := ⟨rfl, rfl, rfl, by decide +kernel, rfl, by decide +kernel, by decide +kernel⟩
abbrev s_below : Stmt := top 19
theorem sc_below : FnScope ["a", "b"] ["a", "b"] (defScope s_below) := ⟨rfl, rfl, rfl, by decide +kernel, rfl, by decide +kernel, by decide +kernel⟩
abbrev s_no : Stmt := top 20
theorem sc_no : FnScope ["truth"] ["truth"] (defScope s_no) := ⟨rfl, rfl, rfl, by decide +kernel, rfl, by decide +kernel, by decide +kernel⟩
abbrev s_both : Stmt := top 21
theorem sc_both : FnScope ["one", "other"] ["one", "other"] (defScope s_both) := ⟨rfl, rfl, rfl, by decide +kernel, rfl, by decide +kernel, by decide +kernel⟩
abbrev s_either : Stmt := top 22
theorem sc_either : FnScope ["one", "other"] ["one", "other"] (defScope s_either) := ⟨rfl, rfl, rfl, by decide +kernel, rfl, by decide +kernel, by decide +kernel⟩
structure Bn (mg : Str → Option Value) : Prop where
  b_int : mg "int" = none
  b_str : mg "str" = none
  b_bool : mg "bool" = none
  b_tuple : mg "tuple" = none
  b_list : mg "list" = none
  b_dict : mg "dict" = none
  b_isinstance : mg "isinstance" = none
  b_len : mg "len" = none
  b_all : mg "all" = none
  b_sorted : mg "sorted" = none
  b_max : mg "max" = none
  b_min : mg "min" = none
  b_abs : mg "abs" = none
  b_range : mg "range" = none
  b_enumerate : mg "enumerate" = none
section
variable {P : Program} {w : World} {K : PySem.W.Frag} {mg : Str → Option Value} {base : Heap}

def o_is_number : PL := fun ds R => ∃ d, ds = [d] ∧ (∀ v, d ≠ .raw v) ∧ R (.bl (Bg.isNum d))
theorem ok_is_number (T : Bn mg) (Df : Def K mg "is_number" s_is_number ["thing"])  : Cal P w K mg base "is_number" 1 ["thing"] (spP ⟨P, w, K⟩ 1 o_is_number) := by
  have S := sc_is_number
  refine Df.okP S rfl fun f cdv A outer s H E B hr => ?_
  refine ⟨_, (dss_one (ds_ret (de_and (de_callB cd_isi rfl T.b_isinstance rfl (da_cons (dv 0) (da_cons (de_ty rfl T.b_int rfl) da_nil))) (de_one (de_not (de_callB cd_isi rfl T.b_isinstance rfl (da_cons (dv 0) (da_cons (de_ty rfl T.b_bool rfl) da_nil)))))))), ?_⟩
  rintro ds R hl ⟨d, rfl, hd, h⟩
  have e1 := isiD_eq (n := "int") hd (by decide)
  have e2 := isiD_eq (n := "bool") hd (by decide)
  simp only [dRet, dRetN, dSeq, dIfS, dSet, dPar, dAug, dFor, dDrop, dDropM, dSetM, dSetF, fLst, fItems, mBm, dNewD, dPutO, dNext, dBreak, dCont, dAndV, dOrV, dNotV, dAnd, dOr, dNot, dB, dIf, dTup, dLst, dOp, dUn, dCallP, dCall, lfP, dCons, dNil, dVar, dC, dChain, dOpO, dCallO, dItems, dEnum, dRange1, dRange2, dLc, dLc2, dNoPart, dPart, dSl, dTru, gtName, gtTup, gtCons, gtNil, dYes, dGet, dGetO, dRevT, dRevL, lcBody, lcOut, lcIn, wipeD, List.map_cons, List.map_nil, List.cons_append, List.nil_append, List.length_cons, List.length_nil, Nat.reduceAdd, Nat.reduceSub, Nat.zero_add, Nat.sub_self, List.replicate_zero, List.replicate_succ, List.getElem?_cons_zero, List.getElem?_cons_succ, List.set_cons_zero, List.set_cons_succ, Option.some.injEq, Dv.Slot.d.injEq, Dv.Slot.own.injEq, Ob.lst.injEq, Ob.dic.injEq, exists_eq_left', exists_eq_left, exists_and_left, List.cons.injEq, and_true, true_and, and_assoc, D.raw.injEq, V.ty.injEq, D.bl.injEq, D.int.injEq, D.str.injEq, D.tup.injEq, D.lst.injEq, Bool.true_eq_false, Bool.false_eq_true, if_true, if_false, ite_true, ite_false, reduceIte, reduceCtorEq, false_or, or_false, itemsD_tup, itemsD_lst, itemsD_dic, exists_const]
  cases d <;> simp_all [isI, Bg.isNum]

def o_is_text : PL := fun ds R => ∃ d, ds = [d] ∧ shp 8 d = true ∧ R (.bl (isTextD d))
theorem ok_is_text (T : Bn mg) (Df : Def K mg "is_text" s_is_text ["thing"])  : Cal P w K mg base "is_text" 1 ["thing"] (spP ⟨P, w, K⟩ 1 o_is_text) := by
  have S := sc_is_text
  refine Df.okP S rfl fun f cdv A outer s H E B hr => ?_
  refine ⟨_, (dss_one (ds_ret (de_and (de_callB cd_isi rfl T.b_isinstance rfl (da_cons (dv 0) (da_cons (de_ty rfl T.b_str rfl) da_nil))) (de_one (de_callB (cd_all rfl) rfl T.b_all rfl (da_cons (de_lc (own := [("sign", 1)]) rfl S.nd (di_val (dv 0)) (blkOk_by (by rfl)) (fun s H C cl fp => (dg_name (i := 1) S.nd rfl (by first | exact .inl rfl | exact .inr rfl))) (fun s H C cl fp => dts_nil) (fun s H C cl fp => (de_chain (od_le hr.units) (od_le hr.units) de_str (dv 1) de_str))) da_nil)))))), ?_⟩
  rintro ds R hl ⟨d, rfl, hd, h⟩
  simp only [dRet, dRetN, dSeq, dIfS, dSet, dPar, dAug, dFor, dDrop, dDropM, dSetM, dSetF, fLst, fItems, mBm, dNewD, dPutO, dNext, dBreak, dCont, dAndV, dOrV, dNotV, dAnd, dOr, dNot, dB, dIf, dTup, dLst, dOp, dUn, dCallP, dCall, lfP, dCons, dNil, dVar, dC, dChain, dOpO, dCallO, dItems, dEnum, dRange1, dRange2, dLc, dLc2, dNoPart, dPart, dSl, dTru, gtName, gtTup, gtCons, gtNil, dYes, dGet, dGetO, dRevT, dRevL, lcBody, lcOut, lcIn, wipeD, List.map_cons, List.map_nil, List.cons_append, List.nil_append, List.length_cons, List.length_nil, Nat.reduceAdd, Nat.reduceSub, Nat.zero_add, Nat.sub_self, List.replicate_zero, List.replicate_succ, List.getElem?_cons_zero, List.getElem?_cons_succ, List.set_cons_zero, List.set_cons_succ, Option.some.injEq, Dv.Slot.d.injEq, Dv.Slot.own.injEq, Ob.lst.injEq, Ob.dic.injEq, exists_eq_left', exists_eq_left, exists_and_left, List.cons.injEq, and_true, true_and, and_assoc, D.raw.injEq, V.ty.injEq, D.bl.injEq, D.int.injEq, D.str.injEq, D.tup.injEq, D.lst.injEq, Bool.true_eq_false, Bool.false_eq_true, if_true, if_false, ite_true, ite_false, reduceIte, reduceCtorEq, false_or, or_false, itemsD_tup, itemsD_lst, itemsD_dic, exists_const]
  rw [isiD_eq (shp_raw hd) (by decide)]
  refine ⟨_, rfl, ?_⟩
  cases d with
  | str x =>
    refine (if_pos rfl).mpr ⟨_, rfl, fun hz => ⟨hz, ?_⟩⟩
    refine lc_map (fun d => .bl (azD d)) (fun d hd' K hk => ?_) ?_
    · have hs := sign_shp hd d hd'
      obtain ⟨k, _, rfl⟩ := List.mem_map.mp hd'
      simp only [dRet, dRetN, dSeq, dIfS, dSet, dPar, dAug, dFor, dDrop, dDropM, dSetM, dSetF, fLst, fItems, mBm, dNewD, dPutO, dNext, dBreak, dCont, dAndV, dOrV, dNotV, dAnd, dOr, dNot, dB, dIf, dTup, dLst, dOp, dUn, dCallP, dCall, lfP, dCons, dNil, dVar, dC, dChain, dOpO, dCallO, dItems, dEnum, dRange1, dRange2, dLc, dLc2, dNoPart, dPart, dSl, dTru, gtName, gtTup, gtCons, gtNil, dYes, dGet, dGetO, dRevT, dRevL, lcBody, lcOut, lcIn, wipeD, List.map_cons, List.map_nil, List.cons_append, List.nil_append, List.length_cons, List.length_nil, Nat.reduceAdd, Nat.reduceSub, Nat.zero_add, Nat.sub_self, List.replicate_zero, List.replicate_succ, List.getElem?_cons_zero, List.getElem?_cons_succ, List.set_cons_zero, List.set_cons_succ, Option.some.injEq, Dv.Slot.d.injEq, Dv.Slot.own.injEq, Ob.lst.injEq, Ob.dic.injEq, exists_eq_left', exists_eq_left, exists_and_left, List.cons.injEq, and_true, true_and, and_assoc, D.raw.injEq, V.ty.injEq, D.bl.injEq, D.int.injEq, D.str.injEq, D.tup.injEq, D.lst.injEq, Bool.true_eq_false, Bool.false_eq_true, if_true, if_false, ite_true, ite_false, reduceIte, reduceCtorEq, false_or, or_false, itemsD_tup, itemsD_lst, itemsD_dic, exists_const, cmpP]
      refine ⟨8, by decide, by decide +kernel, hs, rfl, (fun z => nomatch z), ?_⟩
      unfold azD at hk
      cases q : ltD (.str ⟨#[k]⟩) (.str "a") with
      | true =>
        rw [q] at hk
        exact hk
      | false =>
        rw [q] at hk
        exact ⟨8, by decide, hs, by decide +kernel, rfl, (fun z => nomatch z), hk⟩
    · refine ⟨(signsD x).map azD, by rw [List.nil_append, List.map_map]; rfl, ?_⟩
      rw [List.all_map]
      exact h
  | _ => exact (if_neg Bool.false_ne_true).mpr h

def o_is_value : PL := fun ds R => ∃ d, ds = [d] ∧ shp 8 d = true ∧ R (.bl (isValD d))
theorem ok_is_value (T : Bn mg) (Df : Def K mg "is_value" s_is_value ["thing"]) (C_is_number : Cal P w K mg base "is_number" 1 ["thing"] (spP ⟨P, w, K⟩ 1 o_is_number)) (C_is_text : Cal P w K mg base "is_text" 1 ["thing"] (spP ⟨P, w, K⟩ 1 o_is_text)) : Cal P w K mg base "is_value" 2 ["thing"] (spP ⟨P, w, K⟩ 1 o_is_value) := by
  have S := sc_is_value
  refine Df.okP S rfl fun f cdv A outer s H E B hr => ?_
  refine ⟨_, (dss_one (ds_ret (de_or (de_cmp od_isN (dv 0) de_non) (de_or (de_fnP C_is_number (hr.mono (by decide)) rfl (da_cons (dv 0) da_nil)) (de_one (de_fnP C_is_text (hr.mono (by decide)) rfl (da_cons (dv 0) da_nil))))))), ?_⟩
  rintro ds R hl ⟨d, rfl, hd, h⟩
  simp only [dRet, dRetN, dSeq, dIfS, dSet, dPar, dAug, dFor, dDrop, dDropM, dSetM, dSetF, fLst, fItems, mBm, dNewD, dPutO, dNext, dBreak, dCont, dAndV, dOrV, dNotV, dAnd, dOr, dNot, dB, dIf, dTup, dLst, dOp, dUn, dCallP, dCall, lfP, dCons, dNil, dVar, dC, dChain, dOpO, dCallO, dItems, dEnum, dRange1, dRange2, dLc, dLc2, dNoPart, dPart, dSl, dTru, gtName, gtTup, gtCons, gtNil, dYes, dGet, dGetO, dRevT, dRevL, lcBody, lcOut, lcIn, wipeD, List.map_cons, List.map_nil, List.cons_append, List.nil_append, List.length_cons, List.length_nil, Nat.reduceAdd, Nat.reduceSub, Nat.zero_add, Nat.sub_self, List.replicate_zero, List.replicate_succ, List.getElem?_cons_zero, List.getElem?_cons_succ, List.set_cons_zero, List.set_cons_succ, Option.some.injEq, Dv.Slot.d.injEq, Dv.Slot.own.injEq, Ob.lst.injEq, Ob.dic.injEq, exists_eq_left', exists_eq_left, exists_and_left, List.cons.injEq, and_true, true_and, and_assoc, D.raw.injEq, V.ty.injEq, D.bl.injEq, D.int.injEq, D.str.injEq, D.tup.injEq, D.lst.injEq, Bool.true_eq_false, Bool.false_eq_true, if_true, if_false, ite_true, ite_false, reduceIte, reduceCtorEq, false_or, or_false, itemsD_tup, itemsD_lst, itemsD_dic, exists_const]
  unfold isValD at h
  cases h1 : isN d with
  | true => rw [h1] at h; exact h
  | false =>
    refine ⟨d, rfl, shp_raw hd, _, rfl, ?_⟩
    cases h2 : Bg.isNum d with
    | true => rw [h1, h2] at h; exact h
    | false =>
      rw [h1, h2] at h
      exact ⟨d, rfl, hd, h⟩

def o_place_in_order : PL := fun ds R => ∃ d, ds = [d] ∧ (∀ v, d ≠ .raw v) ∧ R (placeD d)
theorem ok_place_in_order (T : Bn mg) (Df : Def K mg "place_in_order" s_place_in_order ["value"]) (C_is_number : Cal P w K mg base "is_number" 1 ["thing"] (spP ⟨P, w, K⟩ 1 o_is_number)) : Cal P w K mg base "place_in_order" 2 ["value"] (spP ⟨P, w, K⟩ 1 o_place_in_order) := by
  have S := sc_place_in_order
  refine Df.okP S rfl fun f cdv A outer s H E B hr => ?_
  refine ⟨_, (dss_cons (ds_if (dt_cmp od_isN (dv 0) de_non) (dss_one (ds_ret (de_tup (da_cons de_int (da_cons de_int (da_cons de_str da_nil)))))) dss_nil) (dss_one (ds_ret (de_if (dt_val (de_fnP C_is_number (hr.mono (by decide)) rfl (da_cons (dv 0) da_nil))) (de_tup (da_cons de_int (da_cons (dv 0) (da_cons de_str da_nil)))) (de_tup (da_cons de_int (da_cons de_int (da_cons (dv 0) da_nil)))))))), ?_⟩
  rintro ds R hl ⟨d, rfl, hd, h⟩
  simp only [dRet, dRetN, dSeq, dIfS, dSet, dPar, dAug, dFor, dDrop, dDropM, dSetM, dSetF, fLst, fItems, mBm, dNewD, dPutO, dNext, dBreak, dCont, dAndV, dOrV, dNotV, dAnd, dOr, dNot, dB, dIf, dTup, dLst, dOp, dUn, dCallP, dCall, lfP, dCons, dNil, dVar, dC, dChain, dOpO, dCallO, dItems, dEnum, dRange1, dRange2, dLc, dLc2, dNoPart, dPart, dSl, dTru, gtName, gtTup, gtCons, gtNil, dYes, dGet, dGetO, dRevT, dRevL, lcBody, lcOut, lcIn, wipeD, List.map_cons, List.map_nil, List.cons_append, List.nil_append, List.length_cons, List.length_nil, Nat.reduceAdd, Nat.reduceSub, Nat.zero_add, Nat.sub_self, List.replicate_zero, List.replicate_succ, List.getElem?_cons_zero, List.getElem?_cons_succ, List.set_cons_zero, List.set_cons_succ, Option.some.injEq, Dv.Slot.d.injEq, Dv.Slot.own.injEq, Ob.lst.injEq, Ob.dic.injEq, exists_eq_left', exists_eq_left, exists_and_left, List.cons.injEq, and_true, true_and, and_assoc, D.raw.injEq, V.ty.injEq, D.bl.injEq, D.int.injEq, D.str.injEq, D.tup.injEq, D.lst.injEq, Bool.true_eq_false, Bool.false_eq_true, if_true, if_false, ite_true, ite_false, reduceIte, reduceCtorEq, false_or, or_false, itemsD_tup, itemsD_lst, itemsD_dic, exists_const]
  cases h1 : isN d with
  | true =>
    have : d = .non := by
      cases d with
      | non => rfl
      | raw v => exact absurd rfl (hd v)
      | _ => cases h1
    subst this
    exact ⟨by decide, h⟩
  | false =>
    refine ⟨d, rfl, hd, _, rfl, ?_⟩
    cases d with
    | non => cases h1
    | raw v => exact absurd rfl (hd v)
    | _ => exact ⟨by decide, h⟩

def o_row_order : PL := fun ds R => ∃ xs d, ds = [d] ∧ (d = .tup xs ∨ d = .lst xs) ∧ (∀ x ∈ xs, ∀ v, x ≠ .raw v) ∧ R (.tup (xs.map Bg.placeD))
theorem ok_row_order (T : Bn mg) (Df : Def K mg "row_order" s_row_order ["row"]) (C_place_in_order : Cal P w K mg base "place_in_order" 2 ["value"] (spP ⟨P, w, K⟩ 1 o_place_in_order)) : Cal P w K mg base "row_order" 3 ["row"] (spP ⟨P, w, K⟩ 1 o_row_order) := by
  have S := sc_row_order
  refine Df.okP S rfl fun f cdv A outer s H E B hr => ?_
  refine ⟨_, (dss_one (ds_ret (de_callTy cd_tuple rfl T.b_tuple rfl (da_cons (de_lc (own := [("value", 1)]) rfl S.nd (di_val (dv 0)) (blkOk_by (by rfl)) (fun s H C cl fp => (dg_name (i := 1) S.nd rfl (by first | exact .inl rfl | exact .inr rfl))) (fun s H C cl fp => dts_nil) (fun s H C cl fp => (de_fnP C_place_in_order (hr.mono (by decide)) rfl (da_cons (dv 1) da_nil)))) da_nil)))), ?_⟩
  rintro ds R hl ⟨xs, d, rfl, hd, hx, h⟩
  simp only [dRet, dRetN, dSeq, dIfS, dSet, dPar, dAug, dFor, dDrop, dDropM, dSetM, dSetF, fLst, fItems, mBm, dNewD, dPutO, dNext, dBreak, dCont, dAndV, dOrV, dNotV, dAnd, dOr, dNot, dB, dIf, dTup, dLst, dOp, dUn, dCallP, dCall, lfP, dCons, dNil, dVar, dC, dChain, dOpO, dCallO, dItems, dEnum, dRange1, dRange2, dLc, dLc2, dNoPart, dPart, dSl, dTru, gtName, gtTup, gtCons, gtNil, dYes, dGet, dGetO, dRevT, dRevL, lcBody, lcOut, lcIn, wipeD, List.map_cons, List.map_nil, List.cons_append, List.nil_append, List.length_cons, List.length_nil, Nat.reduceAdd, Nat.reduceSub, Nat.zero_add, Nat.sub_self, List.replicate_zero, List.replicate_succ, List.getElem?_cons_zero, List.getElem?_cons_succ, List.set_cons_zero, List.set_cons_succ, Option.some.injEq, Dv.Slot.d.injEq, Dv.Slot.own.injEq, Ob.lst.injEq, Ob.dic.injEq, exists_eq_left', exists_eq_left, exists_and_left, List.cons.injEq, and_true, true_and, and_assoc, D.raw.injEq, V.ty.injEq, D.bl.injEq, D.int.injEq, D.str.injEq, D.tup.injEq, D.lst.injEq, Bool.true_eq_false, Bool.false_eq_true, if_true, if_false, ite_true, ite_false, reduceIte, reduceCtorEq, false_or, or_false, itemsD_tup, itemsD_lst, itemsD_dic, exists_const]
  refine ⟨xs, (by rcases hd with rfl | rfl <;> rfl), fun hz => ⟨hz, ?_⟩⟩
  refine lc_map Bg.placeD (fun x hx' K hk => ?_) ?_
  · simp only [dRet, dRetN, dSeq, dIfS, dSet, dPar, dAug, dFor, dDrop, dDropM, dSetM, dSetF, fLst, fItems, mBm, dNewD, dPutO, dNext, dBreak, dCont, dAndV, dOrV, dNotV, dAnd, dOr, dNot, dB, dIf, dTup, dLst, dOp, dUn, dCallP, dCall, lfP, dCons, dNil, dVar, dC, dChain, dOpO, dCallO, dItems, dEnum, dRange1, dRange2, dLc, dLc2, dNoPart, dPart, dSl, dTru, gtName, gtTup, gtCons, gtNil, dYes, dGet, dGetO, dRevT, dRevL, lcBody, lcOut, lcIn, wipeD, List.map_cons, List.map_nil, List.cons_append, List.nil_append, List.length_cons, List.length_nil, Nat.reduceAdd, Nat.reduceSub, Nat.zero_add, Nat.sub_self, List.replicate_zero, List.replicate_succ, List.getElem?_cons_zero, List.getElem?_cons_succ, List.set_cons_zero, List.set_cons_succ, Option.some.injEq, Dv.Slot.d.injEq, Dv.Slot.own.injEq, Ob.lst.injEq, Ob.dic.injEq, exists_eq_left', exists_eq_left, exists_and_left, List.cons.injEq, and_true, true_and, and_assoc, D.raw.injEq, V.ty.injEq, D.bl.injEq, D.int.injEq, D.str.injEq, D.tup.injEq, D.lst.injEq, Bool.true_eq_false, Bool.false_eq_true, if_true, if_false, ite_true, ite_false, reduceIte, reduceCtorEq, false_or, or_false, itemsD_tup, itemsD_lst, itemsD_dic, exists_const]
    exact ⟨x, rfl, hx x hx', hk⟩
  · exact h

def o_bag : PL := fun ds R => ∃ rs d, ds = [d] ∧ (d = .tup (rs.map rowD) ∨ d = .lst (rs.map rowD)) ∧ R (bagD (bagR rs))
theorem ok_bag (T : Bn mg) (Df : Def K mg "bag" s_bag ["rows"]) (C_row_order : Cal P w K mg base "row_order" 3 ["row"] (spP ⟨P, w, K⟩ 1 o_row_order)) : Cal P w K mg base "bag" 4 ["rows"] (spP ⟨P, w, K⟩ 1 o_bag) := by
  have S := sc_bag
  refine Df.okP S rfl fun f cdv A outer s H E B hr => ?_
  refine ⟨_, (dss_cons (ds_set (i := 1) S.nd rfl (by first | exact .inl rfl | exact .inr rfl) (de_callB (cd_sorted hr.u70) rfl T.b_sorted rfl (da_cons (de_lc (own := [("k", 3), ("row", 4)]) rfl S.nd (di_enum rfl T.b_enumerate (da_cons (dv 0) da_nil)) (blkOk_by (by rfl)) (fun s H C cl fp => (dg_tup (n := 2) rfl (dgs_cons (dg_name (i := 3) S.nd rfl (by first | exact .inl rfl | exact .inr rfl)) (dgs_cons (dg_name (i := 4) S.nd rfl (by first | exact .inl rfl | exact .inr rfl)) dgs_nil)))) (fun s H C cl fp => dts_nil) (fun s H C cl fp => (de_tup (da_cons (de_fnP C_row_order (hr.mono (by decide)) rfl (da_cons (dv 4) da_nil)) (da_cons (dv 3) da_nil))))) da_nil))) (dss_cons (ds_set (i := 2) S.nd rfl (by first | exact .inl rfl | exact .inr rfl) (de_callTy cd_list rfl T.b_list rfl (da_cons (dv 0) da_nil))) (dss_one (ds_ret (de_callTy cd_tuple rfl T.b_tuple rfl (da_cons (de_lc (own := [("_", 5), ("k", 3)]) rfl S.nd (di_val (dv 1)) (blkOk_by (by rfl)) (fun s H C cl fp => (dg_tup (n := 2) rfl (dgs_cons (dg_name (i := 5) S.nd rfl (by first | exact .inl rfl | exact .inr rfl)) (dgs_cons (dg_name (i := 3) S.nd rfl (by first | exact .inl rfl | exact .inr rfl)) dgs_nil)))) (fun s H C cl fp => dts_nil) (fun s H C cl fp => (de_ix xd_seq (dv 2) (dv 3)))) da_nil)))))), ?_⟩
  rintro ds R hl ⟨rs, d, rfl, hd, h⟩
  simp only [dRet, dRetN, dSeq, dIfS, dSet, dPar, dAug, dFor, dDrop, dDropM, dSetM, dSetF, fLst, fItems, mBm, dNewD, dPutO, dNext, dBreak, dCont, dAndV, dOrV, dNotV, dAnd, dOr, dNot, dB, dIf, dTup, dLst, dOp, dUn, dCallP, dCall, lfP, dCons, dNil, dVar, dC, dChain, dOpO, dCallO, dItems, dEnum, dRange1, dRange2, dLc, dLc2, dNoPart, dPart, dSl, dTru, gtName, gtTup, gtCons, gtNil, dYes, dGet, dGetO, dRevT, dRevL, lcBody, lcOut, lcIn, wipeD, List.map_cons, List.map_nil, List.cons_append, List.nil_append, List.length_cons, List.length_nil, Nat.reduceAdd, Nat.reduceSub, Nat.zero_add, Nat.sub_self, List.replicate_zero, List.replicate_succ, List.getElem?_cons_zero, List.getElem?_cons_succ, List.set_cons_zero, List.set_cons_succ, Option.some.injEq, Dv.Slot.d.injEq, Dv.Slot.own.injEq, Ob.lst.injEq, Ob.dic.injEq, exists_eq_left', exists_eq_left, exists_and_left, List.cons.injEq, and_true, true_and, and_assoc, D.raw.injEq, V.ty.injEq, D.bl.injEq, D.int.injEq, D.str.injEq, D.tup.injEq, D.lst.injEq, Bool.true_eq_false, Bool.false_eq_true, if_true, if_false, ite_true, ite_false, reduceIte, reduceCtorEq, false_or, or_false, itemsD_tup, itemsD_lst, itemsD_dic, exists_const]
  refine ⟨rs.map rowD, hd, fun hz => ⟨by rw [enumD_len]; exact hz, ?_⟩⟩
  rw [Bg.enum_rows]
  refine lc_mapg pairK (fun p hp K hk => ?_) ?_
  · simp only [dRet, dRetN, dSeq, dIfS, dSet, dPar, dAug, dFor, dDrop, dDropM, dSetM, dSetF, fLst, fItems, mBm, dNewD, dPutO, dNext, dBreak, dCont, dAndV, dOrV, dNotV, dAnd, dOr, dNot, dB, dIf, dTup, dLst, dOp, dUn, dCallP, dCall, lfP, dCons, dNil, dVar, dC, dChain, dOpO, dCallO, dItems, dEnum, dRange1, dRange2, dLc, dLc2, dNoPart, dPart, dSl, dTru, gtName, gtTup, gtCons, gtNil, dYes, dGet, dGetO, dRevT, dRevL, lcBody, lcOut, lcIn, wipeD, List.map_cons, List.map_nil, List.cons_append, List.nil_append, List.length_cons, List.length_nil, Nat.reduceAdd, Nat.reduceSub, Nat.zero_add, Nat.sub_self, List.replicate_zero, List.replicate_succ, List.getElem?_cons_zero, List.getElem?_cons_succ, List.set_cons_zero, List.set_cons_succ, Option.some.injEq, Dv.Slot.d.injEq, Dv.Slot.own.injEq, Ob.lst.injEq, Ob.dic.injEq, exists_eq_left', exists_eq_left, exists_and_left, List.cons.injEq, and_true, true_and, and_assoc, D.raw.injEq, V.ty.injEq, D.bl.injEq, D.int.injEq, D.str.injEq, D.tup.injEq, D.lst.injEq, Bool.true_eq_false, Bool.false_eq_true, if_true, if_false, ite_true, ite_false, reduceIte, reduceCtorEq, false_or, or_false, itemsD_tup, itemsD_lst, itemsD_dic, exists_const]
    refine ⟨p.1.map Vl.d, _, rfl, .inl rfl, fun x hx => ?_, ?_⟩
    · obtain ⟨v, _, rfl⟩ := List.mem_map.mp hx
      exact vl_raw v
    · rw [places_row]
      exact ⟨by decide, hk⟩
  · rw [List.nil_append]
    refine ⟨4, by decide, sortOk_pairK rs, rs.map rowD, hd, fun hz2 => ⟨hz2, ?_⟩⟩
    rw [sort_pairK]
    refine lc_mapg (fun p => rowD p.1) (fun p hp K hk => ?_) ?_
    · simp only [dRet, dRetN, dSeq, dIfS, dSet, dPar, dAug, dFor, dDrop, dDropM, dSetM, dSetF, fLst, fItems, mBm, dNewD, dPutO, dNext, dBreak, dCont, dAndV, dOrV, dNotV, dAnd, dOr, dNot, dB, dIf, dTup, dLst, dOp, dUn, dCallP, dCall, lfP, dCons, dNil, dVar, dC, dChain, dOpO, dCallO, dItems, dEnum, dRange1, dRange2, dLc, dLc2, dNoPart, dPart, dSl, dTru, gtName, gtTup, gtCons, gtNil, dYes, dGet, dGetO, dRevT, dRevL, lcBody, lcOut, lcIn, wipeD, List.map_cons, List.map_nil, List.cons_append, List.nil_append, List.length_cons, List.length_nil, Nat.reduceAdd, Nat.reduceSub, Nat.zero_add, Nat.sub_self, List.replicate_zero, List.replicate_succ, List.getElem?_cons_zero, List.getElem?_cons_succ, List.set_cons_zero, List.set_cons_succ, Option.some.injEq, Dv.Slot.d.injEq, Dv.Slot.own.injEq, Ob.lst.injEq, Ob.dic.injEq, exists_eq_left', exists_eq_left, exists_and_left, List.cons.injEq, and_true, true_and, and_assoc, D.raw.injEq, V.ty.injEq, D.bl.injEq, D.int.injEq, D.str.injEq, D.tup.injEq, D.lst.injEq, Bool.true_eq_false, Bool.false_eq_true, if_true, if_false, ite_true, ite_false, reduceIte, reduceCtorEq, false_or, or_false, itemsD_tup, itemsD_lst, itemsD_dic, exists_const, pairK]
      refine ⟨_, ?_, hk⟩
      refine (atI_nat ?_ : atI (rs.map rowD) _ = _)
      rw [List.getElem?_map, sorted_at rs hp]
      rfl
    · have e : (rs.zipIdx.mergeSort ordK).map (fun p => rowD p.1) = (bagR rs).map rowD := by
        unfold bagR
        rw [List.map_map]
        rfl
      rw [List.nil_append, e]
      exact h

def o_is_row : PL := fun ds R => ∃ d n, ds = [d, .int n] ∧ shp 8 d = true ∧ R (.bl (isRowD d n))
theorem ok_is_row (T : Bn mg) (Df : Def K mg "is_row" s_is_row ["thing", "width"]) (C_is_value : Cal P w K mg base "is_value" 2 ["thing"] (spP ⟨P, w, K⟩ 1 o_is_value)) : Cal P w K mg base "is_row" 3 ["thing", "width"] (spP ⟨P, w, K⟩ 2 o_is_row) := by
  have S := sc_is_row
  refine Df.okP S rfl fun f cdv A outer s H E B hr => ?_
  refine ⟨_, (dss_one (ds_ret (de_and (de_callB cd_isi rfl T.b_isinstance rfl (da_cons (dv 0) (da_cons (de_ty rfl T.b_tuple rfl) da_nil))) (de_and (de_cmp (od_eq hr.units 8) (de_callB cd_len rfl T.b_len rfl (da_cons (dv 0) da_nil)) (dv 1)) (de_one (de_callB (cd_all rfl) rfl T.b_all rfl (da_cons (de_lc (own := [("one", 2)]) rfl S.nd (di_val (dv 0)) (blkOk_by (by rfl)) (fun s H C cl fp => (dg_name (i := 2) S.nd rfl (by first | exact .inl rfl | exact .inr rfl))) (fun s H C cl fp => dts_nil) (fun s H C cl fp => (de_fnP C_is_value (hr.mono (by decide)) rfl (da_cons (dv 2) da_nil)))) da_nil))))))), ?_⟩
  rintro ds R hl ⟨d, n, rfl, hd, h⟩
  simp only [dRet, dRetN, dSeq, dIfS, dSet, dPar, dAug, dFor, dDrop, dDropM, dSetM, dSetF, fLst, fItems, mBm, dNewD, dPutO, dNext, dBreak, dCont, dAndV, dOrV, dNotV, dAnd, dOr, dNot, dB, dIf, dTup, dLst, dOp, dUn, dCallP, dCall, lfP, dCons, dNil, dVar, dC, dChain, dOpO, dCallO, dItems, dEnum, dRange1, dRange2, dLc, dLc2, dNoPart, dPart, dSl, dTru, gtName, gtTup, gtCons, gtNil, dYes, dGet, dGetO, dRevT, dRevL, lcBody, lcOut, lcIn, wipeD, List.map_cons, List.map_nil, List.cons_append, List.nil_append, List.length_cons, List.length_nil, Nat.reduceAdd, Nat.reduceSub, Nat.zero_add, Nat.sub_self, List.replicate_zero, List.replicate_succ, List.getElem?_cons_zero, List.getElem?_cons_succ, List.set_cons_zero, List.set_cons_succ, Option.some.injEq, Dv.Slot.d.injEq, Dv.Slot.own.injEq, Ob.lst.injEq, Ob.dic.injEq, exists_eq_left', exists_eq_left, exists_and_left, List.cons.injEq, and_true, true_and, and_assoc, D.raw.injEq, V.ty.injEq, D.bl.injEq, D.int.injEq, D.str.injEq, D.tup.injEq, D.lst.injEq, Bool.true_eq_false, Bool.false_eq_true, if_true, if_false, ite_true, ite_false, reduceIte, reduceCtorEq, false_or, or_false, itemsD_tup, itemsD_lst, itemsD_dic, exists_const]
  rw [isiD_eq (shp_raw hd) (by decide)]
  refine ⟨_, rfl, ?_⟩
  cases d with
  | tup xs =>
    refine (if_pos rfl).mpr ⟨_, rfl, fun _ => ⟨shp_int _ _, shp_int _ _, ?_⟩⟩
    have e : eqD (.int (xs.length : Nat)) (.int n) = decide ((xs.length : Int) = n) := by simp [eqD, D.py, PyData.eqv]; rfl
    rw [e]
    rw [shp, List.all_eq_true] at hd
    cases q : decide ((xs.length : Int) = n) with
    | false => rw [isRowD, q] at h; exact h
    | true =>
      rw [isRowD, q] at h
      refine (if_pos rfl).mpr ⟨xs, rfl, fun hz => ⟨hz, ?_⟩⟩
      refine lc_map (fun d => .bl (isValD d)) (fun x hx K hk => ?_) ?_
      · simp only [dRet, dRetN, dSeq, dIfS, dSet, dPar, dAug, dFor, dDrop, dDropM, dSetM, dSetF, fLst, fItems, mBm, dNewD, dPutO, dNext, dBreak, dCont, dAndV, dOrV, dNotV, dAnd, dOr, dNot, dB, dIf, dTup, dLst, dOp, dUn, dCallP, dCall, lfP, dCons, dNil, dVar, dC, dChain, dOpO, dCallO, dItems, dEnum, dRange1, dRange2, dLc, dLc2, dNoPart, dPart, dSl, dTru, gtName, gtTup, gtCons, gtNil, dYes, dGet, dGetO, dRevT, dRevL, lcBody, lcOut, lcIn, wipeD, List.map_cons, List.map_nil, List.cons_append, List.nil_append, List.length_cons, List.length_nil, Nat.reduceAdd, Nat.reduceSub, Nat.zero_add, Nat.sub_self, List.replicate_zero, List.replicate_succ, List.getElem?_cons_zero, List.getElem?_cons_succ, List.set_cons_zero, List.set_cons_succ, Option.some.injEq, Dv.Slot.d.injEq, Dv.Slot.own.injEq, Ob.lst.injEq, Ob.dic.injEq, exists_eq_left', exists_eq_left, exists_and_left, List.cons.injEq, and_true, true_and, and_assoc, D.raw.injEq, V.ty.injEq, D.bl.injEq, D.int.injEq, D.str.injEq, D.tup.injEq, D.lst.injEq, Bool.true_eq_false, Bool.false_eq_true, if_true, if_false, ite_true, ite_false, reduceIte, reduceCtorEq, false_or, or_false, itemsD_tup, itemsD_lst, itemsD_dic, exists_const]
        exact ⟨x, rfl, shp_up (hd x hx), hk⟩
      · refine ⟨xs.map isValD, by rw [List.nil_append, List.map_map]; rfl, ?_⟩
        rw [List.all_map]
        exact h
  | _ => exact (if_neg Bool.false_ne_true).mpr h

def o_is_bag : PL := fun ds R => ∃ d n, ds = [d, .int n] ∧ shp 8 d = true ∧ ∀ b, (b = true ↔ IsBag d n) → R (.bl b)
theorem ok_is_bag (T : Bn mg) (Df : Def K mg "is_bag" s_is_bag ["thing", "width"]) (C_is_row : Cal P w K mg base "is_row" 3 ["thing", "width"] (spP ⟨P, w, K⟩ 2 o_is_row)) (C_bag : Cal P w K mg base "bag" 4 ["rows"] (spP ⟨P, w, K⟩ 1 o_bag)) : Cal P w K mg base "is_bag" 5 ["thing", "width"] (spP ⟨P, w, K⟩ 2 o_is_bag) := by
  have S := sc_is_bag
  refine Df.okP S rfl fun f cdv A outer s H E B hr => ?_
  refine ⟨_, (dss_one (ds_ret (de_and (de_callB cd_isi rfl T.b_isinstance rfl (da_cons (dv 0) (da_cons (de_ty rfl T.b_tuple rfl) da_nil))) (de_and (de_callB (cd_all rfl) rfl T.b_all rfl (da_cons (de_lc (own := [("row", 2)]) rfl S.nd (di_val (dv 0)) (blkOk_by (by rfl)) (fun s H C cl fp => (dg_name (i := 2) S.nd rfl (by first | exact .inl rfl | exact .inr rfl))) (fun s H C cl fp => dts_nil) (fun s H C cl fp => (de_fnP C_is_row (hr.mono (by decide)) rfl (da_cons (dv 2) (da_cons (dv 1) da_nil))))) da_nil)) (de_one (de_cmp (od_eq hr.units 8) (de_fnP C_bag (hr.mono (by decide)) rfl (da_cons (dv 0) da_nil)) (dv 0))))))), ?_⟩
  rintro ds R hl ⟨d, n, rfl, hd, h⟩
  simp only [dRet, dRetN, dSeq, dIfS, dSet, dPar, dAug, dFor, dDrop, dDropM, dSetM, dSetF, fLst, fItems, mBm, dNewD, dPutO, dNext, dBreak, dCont, dAndV, dOrV, dNotV, dAnd, dOr, dNot, dB, dIf, dTup, dLst, dOp, dUn, dCallP, dCall, lfP, dCons, dNil, dVar, dC, dChain, dOpO, dCallO, dItems, dEnum, dRange1, dRange2, dLc, dLc2, dNoPart, dPart, dSl, dTru, gtName, gtTup, gtCons, gtNil, dYes, dGet, dGetO, dRevT, dRevL, lcBody, lcOut, lcIn, wipeD, List.map_cons, List.map_nil, List.cons_append, List.nil_append, List.length_cons, List.length_nil, Nat.reduceAdd, Nat.reduceSub, Nat.zero_add, Nat.sub_self, List.replicate_zero, List.replicate_succ, List.getElem?_cons_zero, List.getElem?_cons_succ, List.set_cons_zero, List.set_cons_succ, Option.some.injEq, Dv.Slot.d.injEq, Dv.Slot.own.injEq, Ob.lst.injEq, Ob.dic.injEq, exists_eq_left', exists_eq_left, exists_and_left, List.cons.injEq, and_true, true_and, and_assoc, D.raw.injEq, V.ty.injEq, D.bl.injEq, D.int.injEq, D.str.injEq, D.tup.injEq, D.lst.injEq, Bool.true_eq_false, Bool.false_eq_true, if_true, if_false, ite_true, ite_false, reduceIte, reduceCtorEq, false_or, or_false, itemsD_tup, itemsD_lst, itemsD_dic, exists_const]
  rw [isiD_eq (shp_raw hd) (by decide)]
  refine ⟨_, rfl, ?_⟩
  cases d with
  | tup xs =>
    rw [shp, List.all_eq_true] at hd
    refine (if_pos rfl).mpr ⟨xs, rfl, fun hz => ⟨hz, ?_⟩⟩
    refine lc_map (fun d => .bl (isRowD d n)) (fun x hx K hk => ?_) ?_
    · simp only [dRet, dRetN, dSeq, dIfS, dSet, dPar, dAug, dFor, dDrop, dDropM, dSetM, dSetF, fLst, fItems, mBm, dNewD, dPutO, dNext, dBreak, dCont, dAndV, dOrV, dNotV, dAnd, dOr, dNot, dB, dIf, dTup, dLst, dOp, dUn, dCallP, dCall, lfP, dCons, dNil, dVar, dC, dChain, dOpO, dCallO, dItems, dEnum, dRange1, dRange2, dLc, dLc2, dNoPart, dPart, dSl, dTru, gtName, gtTup, gtCons, gtNil, dYes, dGet, dGetO, dRevT, dRevL, lcBody, lcOut, lcIn, wipeD, List.map_cons, List.map_nil, List.cons_append, List.nil_append, List.length_cons, List.length_nil, Nat.reduceAdd, Nat.reduceSub, Nat.zero_add, Nat.sub_self, List.replicate_zero, List.replicate_succ, List.getElem?_cons_zero, List.getElem?_cons_succ, List.set_cons_zero, List.set_cons_succ, Option.some.injEq, Dv.Slot.d.injEq, Dv.Slot.own.injEq, Ob.lst.injEq, Ob.dic.injEq, exists_eq_left', exists_eq_left, exists_and_left, List.cons.injEq, and_true, true_and, and_assoc, D.raw.injEq, V.ty.injEq, D.bl.injEq, D.int.injEq, D.str.injEq, D.tup.injEq, D.lst.injEq, Bool.true_eq_false, Bool.false_eq_true, if_true, if_false, ite_true, ite_false, reduceIte, reduceCtorEq, false_or, or_false, itemsD_tup, itemsD_lst, itemsD_dic, exists_const]
      exact ⟨x, n, rfl, shp_up (hd x hx), hk⟩
    · refine ⟨xs.map fun d => isRowD d n, by rw [List.nil_append, List.map_map]; rfl, ?_⟩
      rw [List.all_map]
      cases q : xs.all (id ∘ fun d => isRowD d n) with
      | false =>
        refine h _ ⟨(fun z => nomatch z), fun ⟨rs, e, k, _⟩ => ?_⟩
        have e : xs = rs.map rowD := by cases e; rfl
        subst e
        rw [← q, List.all_eq_true]
        rintro x hx
        obtain ⟨r, hr', rfl⟩ := List.mem_map.mp hx
        exact k r hr'
      | true =>
        rw [List.all_eq_true] at q
        obtain ⟨rs, rfl⟩ := rows_of (xs := xs) (n := n) (fun x hx => shp_up (hd x hx)) q
        refine (if_pos rfl).mpr ⟨rs, _, rfl, .inl rfl, shp_bag _ 6, shp_bag rs 6, ?_⟩
        have e : eqD (bagD (bagR rs)) (.tup (rs.map rowD)) = decide (bagR rs = rs) := eqD_bag _ _
        rw [e]
        refine h _ ⟨fun z => ⟨rs, rfl, fun r hr' => q _ (List.mem_map.mpr ⟨r, hr', rfl⟩), of_decide_eq_true z⟩, fun ⟨ss, e, _, k⟩ => ?_⟩
        cases bagD_inj (rs := rs) (ss := ss) e
        exact decide_eq_true k
  | _ => exact h _ ⟨(fun z => nomatch z), fun ⟨rs, e, _, _⟩ => nomatch e⟩

def o_count_in : PL := fun ds R => ∃ (d : D) (rs : List Row) (r : Row), ds = [d, rowD r] ∧ (d = .tup (rs.map rowD) ∨ d = .lst (rs.map rowD)) ∧ R (.int (rs.count r : Nat))
theorem ok_count_in (T : Bn mg) (Df : Def K mg "count_in" s_count_in ["rows", "row"])  : Cal P w K mg base "count_in" 1 ["rows", "row"] (spP ⟨P, w, K⟩ 2 o_count_in) := by
  have S := sc_count_in
  refine Df.okP S rfl fun f cdv A outer s H E B hr => ?_
  refine ⟨_, (dss_one (ds_ret (de_callB cd_len rfl T.b_len rfl (da_cons (de_lc (own := [("own", 2)]) rfl S.nd (di_val (dv 0)) (blkOk_by (by rfl)) (fun s H C cl fp => (dg_name (i := 2) S.nd rfl (by first | exact .inl rfl | exact .inr rfl))) (fun s H C cl fp => (dts_one (dt_cmp (od_eq hr.units 8) (dv 2) (dv 1)))) (fun s H C cl fp => de_int)) da_nil)))), ?_⟩
  rintro ds R hl ⟨d, rs, r, rfl, hd, h⟩
  simp only [dRet, dRetN, dSeq, dIfS, dSet, dPar, dAug, dFor, dDrop, dDropM, dSetM, dSetF, fLst, fItems, mBm, dNewD, dPutO, dNext, dBreak, dCont, dAndV, dOrV, dNotV, dAnd, dOr, dNot, dB, dIf, dTup, dLst, dOp, dUn, dCallP, dCall, lfP, dCons, dNil, dVar, dC, dChain, dOpO, dCallO, dItems, dEnum, dRange1, dRange2, dLc, dLc2, dNoPart, dPart, dSl, dTru, gtName, gtTup, gtCons, gtNil, dYes, dGet, dGetO, dRevT, dRevL, lcBody, lcOut, lcIn, wipeD, List.map_cons, List.map_nil, List.cons_append, List.nil_append, List.length_cons, List.length_nil, Nat.reduceAdd, Nat.reduceSub, Nat.zero_add, Nat.sub_self, List.replicate_zero, List.replicate_succ, List.getElem?_cons_zero, List.getElem?_cons_succ, List.set_cons_zero, List.set_cons_succ, Option.some.injEq, Dv.Slot.d.injEq, Dv.Slot.own.injEq, Ob.lst.injEq, Ob.dic.injEq, exists_eq_left', exists_eq_left, exists_and_left, List.cons.injEq, and_true, true_and, and_assoc, D.raw.injEq, V.ty.injEq, D.bl.injEq, D.int.injEq, D.str.injEq, D.tup.injEq, D.lst.injEq, Bool.true_eq_false, Bool.false_eq_true, if_true, if_false, ite_true, ite_false, reduceIte, reduceCtorEq, false_or, or_false, itemsD_tup, itemsD_lst, itemsD_dic, exists_const]
  refine ⟨rs.map rowD, (by rcases hd with rfl | rfl <;> rfl), fun hz => ⟨hz, ?_⟩⟩
  refine lc_filter (fun s => decide (s = r)) (fun _ => .int 1) (fun s hs K hk => ?_) ?_
  · simp only [dRet, dRetN, dSeq, dIfS, dSet, dPar, dAug, dFor, dDrop, dDropM, dSetM, dSetF, fLst, fItems, mBm, dNewD, dPutO, dNext, dBreak, dCont, dAndV, dOrV, dNotV, dAnd, dOr, dNot, dB, dIf, dTup, dLst, dOp, dUn, dCallP, dCall, lfP, dCons, dNil, dVar, dC, dChain, dOpO, dCallO, dItems, dEnum, dRange1, dRange2, dLc, dLc2, dNoPart, dPart, dSl, dTru, gtName, gtTup, gtCons, gtNil, dYes, dGet, dGetO, dRevT, dRevL, lcBody, lcOut, lcIn, wipeD, List.map_cons, List.map_nil, List.cons_append, List.nil_append, List.length_cons, List.length_nil, Nat.reduceAdd, Nat.reduceSub, Nat.zero_add, Nat.sub_self, List.replicate_zero, List.replicate_succ, List.getElem?_cons_zero, List.getElem?_cons_succ, List.set_cons_zero, List.set_cons_succ, Option.some.injEq, Dv.Slot.d.injEq, Dv.Slot.own.injEq, Ob.lst.injEq, Ob.dic.injEq, exists_eq_left', exists_eq_left, exists_and_left, List.cons.injEq, and_true, true_and, and_assoc, D.raw.injEq, V.ty.injEq, D.bl.injEq, D.int.injEq, D.str.injEq, D.tup.injEq, D.lst.injEq, Bool.true_eq_false, Bool.false_eq_true, if_true, if_false, ite_true, ite_false, reduceIte, reduceCtorEq, false_or, or_false, itemsD_tup, itemsD_lst, itemsD_dic, exists_const]
    refine ⟨shp_row s 7, shp_row r 7, ?_⟩
    rw [eqD_row]
    cases q : decide (s = r) with
    | true => rw [q] at hk; exact hk
    | false => rw [q] at hk; exact hk
  · refine ⟨_, rfl, fun _ => ?_⟩
    have e : rs.countP (fun s => decide (s = r)) = rs.count r := by
      rw [List.count]
      congr 1
      funext s
      rw [Bool.eq_iff_iff]
      simp
    rw [List.nil_append, List.length_map, ← List.countP_eq_length_filter, e]
    exact h

def o_counts_of : PL := fun ds R => ∃ (d : D) (rs : List Row), ds = [d] ∧ (d = .tup (rs.map rowD) ∨ d = .lst (rs.map rowD)) ∧ R (.dic (countsD rs))
theorem ok_counts_of (T : Bn mg) (Df : Def K mg "counts_of" s_counts_of ["rows"])  : Cal P w K mg base "counts_of" 1 ["rows"] (spP ⟨P, w, K⟩ 1 o_counts_of) := by
  have S := sc_counts_of
  refine Df.okP S rfl fun f cdv A outer s H E B hr => ?_
  refine ⟨_, (dss_cons (ds_newD (i := 1) S.nd rfl (by first | exact .inl rfl | exact .inr rfl)) (dss_cons (ds_for PassesOwn.never rfl (di_val (dv 0)) (dg_name (i := 2) S.nd rfl (by first | exact .inl rfl | exact .inr rfl)) (dss_one (ds_putO hr.u66 (pv 1) (de_op od_add (de_getO hr.u66 (pv 1) (da_cons (dv 2) (da_cons de_int da_nil))) de_int) (dv 2)))) (dss_freeze 1 (dss_one (ds_ret (dv 1)))))), ?_⟩
  rintro ds R hl ⟨d, rs, rfl, hd, h⟩
  simp only [dRet, dRetN, dSeq, dIfS, dSet, dPar, dAug, dFor, dDrop, dDropM, dSetM, dSetF, fLst, fItems, mBm, dNewD, dPutO, dNext, dBreak, dCont, dAndV, dOrV, dNotV, dAnd, dOr, dNot, dB, dIf, dTup, dLst, dOp, dUn, dCallP, dCall, lfP, dCons, dNil, dVar, dC, dChain, dOpO, dCallO, dItems, dEnum, dRange1, dRange2, dLc, dLc2, dNoPart, dPart, dSl, dTru, gtName, gtTup, gtCons, gtNil, dYes, dGet, dGetO, dRevT, dRevL, lcBody, lcOut, lcIn, wipeD, List.map_cons, List.map_nil, List.cons_append, List.nil_append, List.length_cons, List.length_nil, Nat.reduceAdd, Nat.reduceSub, Nat.zero_add, Nat.sub_self, List.replicate_zero, List.replicate_succ, List.getElem?_cons_zero, List.getElem?_cons_succ, List.set_cons_zero, List.set_cons_succ, Option.some.injEq, Dv.Slot.d.injEq, Dv.Slot.own.injEq, Ob.lst.injEq, Ob.dic.injEq, exists_eq_left', exists_eq_left, exists_and_left, List.cons.injEq, and_true, true_and, and_assoc, D.raw.injEq, V.ty.injEq, D.bl.injEq, D.int.injEq, D.str.injEq, D.tup.injEq, D.lst.injEq, Bool.true_eq_false, Bool.false_eq_true, if_true, if_false, ite_true, ite_false, reduceIte, reduceCtorEq, false_or, or_false, itemsD_tup, itemsD_lst, itemsD_dic, exists_const]
  refine ⟨rs.map rowD, (by rcases hd with rfl | rfl <;> rfl), fun hz => ?_⟩
  rw [List.length_map] at hz
  refine for_mapg (pre := []) (fun pre ρ _ => ∃ x, ρ = [.d d, .own (.dic (countsD pre)), x]) ⟨.un, rfl⟩ ?_ ?_
  · rintro qs r rest e ρ s ⟨x, rfl⟩ K hK
    have hlen : qs.length < rs.length := by
      have := congrArg List.length e
      rw [List.nil_append, List.length_append, List.length_cons] at this
      omega
    simp only [dRet, dRetN, dSeq, dIfS, dSet, dPar, dAug, dFor, dDrop, dDropM, dSetM, dSetF, fLst, fItems, mBm, dNewD, dPutO, dNext, dBreak, dCont, dAndV, dOrV, dNotV, dAnd, dOr, dNot, dB, dIf, dTup, dLst, dOp, dUn, dCallP, dCall, lfP, dCons, dNil, dVar, dC, dChain, dOpO, dCallO, dItems, dEnum, dRange1, dRange2, dLc, dLc2, dNoPart, dPart, dSl, dTru, gtName, gtTup, gtCons, gtNil, dYes, dGet, dGetO, dRevT, dRevL, lcBody, lcOut, lcIn, wipeD, List.map_cons, List.map_nil, List.cons_append, List.nil_append, List.length_cons, List.length_nil, Nat.reduceAdd, Nat.reduceSub, Nat.zero_add, Nat.sub_self, List.replicate_zero, List.replicate_succ, List.getElem?_cons_zero, List.getElem?_cons_succ, List.set_cons_zero, List.set_cons_succ, Option.some.injEq, Dv.Slot.d.injEq, Dv.Slot.own.injEq, Ob.lst.injEq, Ob.dic.injEq, exists_eq_left', exists_eq_left, exists_and_left, List.cons.injEq, and_true, true_and, and_assoc, D.raw.injEq, V.ty.injEq, D.bl.injEq, D.int.injEq, D.str.injEq, D.tup.injEq, D.lst.injEq, Bool.true_eq_false, Bool.false_eq_true, if_true, if_false, ite_true, ite_false, reduceIte, reduceCtorEq, false_or, or_false, itemsD_tup, itemsD_lst, itemsD_dic, exists_const, getP, addP]
    refine ⟨tupK_rows _ _, shp_row r 7, ⟨_, rfl⟩, rowK r, nk_row r, ?_⟩
    rw [counts_get]
    refine ⟨tupK_rows _ _, shp_row r 7, ⟨_, rfl⟩, rowK r, nk_row r, Nat.lt_of_le_of_lt (countsD_len qs) (Nat.lt_of_lt_of_le hlen hz), ?_⟩
    rw [counts_snoc]
    exact hK _ _ ⟨_, rfl⟩
  · rintro ρ s ⟨x, rfl⟩
    refine .inr ⟨_, rfl, ?_⟩
    exact ⟨_, rfl, h⟩

def o_bag_of : PL := fun ds R => ∃ (fs : List Row) (f : Row → Nat), ds = [.dic (rowsD fs fun r => .int (f r : Nat))] ∧ (∀ r ∈ fs, f r < 2 ^ 62) ∧ (spread fs f).length ≤ sizeLine ∧ R (bagD (bagR (spread fs f)))
theorem ok_bag_of (T : Bn mg) (Df : Def K mg "bag_of" s_bag_of ["counts"]) (C_bag : Cal P w K mg base "bag" 4 ["rows"] (spP ⟨P, w, K⟩ 1 o_bag)) : Cal P w K mg base "bag_of" 5 ["counts"] (spP ⟨P, w, K⟩ 1 o_bag_of) := by
  have S := sc_bag_of
  refine Df.okP S rfl fun f cdv A outer s H E B hr => ?_
  refine ⟨_, (dss_one (ds_ret (de_fnP C_bag (hr.mono (by decide)) rfl (da_cons (de_lc2 (own := [("row", 1), ("_", 2)]) (vs1 := [2]) rfl S.nd (di_val (dv 0)) (blkOk_by (by rfl)) (fun s H C cl fp => (dg_name (i := 1) S.nd rfl (by first | exact .inl rfl | exact .inr rfl))) (fun s H C cl fp => dts_nil) (fun s H C cl fp => (di_range1 rfl T.b_range (da_cons (de_ix (xd_dict hr.u66) (dv 0) (dv 1)) da_nil))) (fun s H C cl fp => (dg_name (i := 2) S.nd rfl (by first | exact .inl rfl | exact .inr rfl))) (fun s H C cl fp => dts_nil) (fun s H C cl fp => (dv 1))) da_nil)))), ?_⟩
  rintro ds R hl ⟨fs, f, rfl, hf, hlen, h⟩
  simp only [dRet, dRetN, dSeq, dIfS, dSet, dPar, dAug, dFor, dDrop, dDropM, dSetM, dSetF, fLst, fItems, mBm, dNewD, dPutO, dNext, dBreak, dCont, dAndV, dOrV, dNotV, dAnd, dOr, dNot, dB, dIf, dTup, dLst, dOp, dUn, dCallP, dCall, lfP, dCons, dNil, dVar, dC, dChain, dOpO, dCallO, dItems, dEnum, dRange1, dRange2, dLc, dLc2, dNoPart, dPart, dSl, dTru, gtName, gtTup, gtCons, gtNil, dYes, dGet, dGetO, dRevT, dRevL, lcBody, lcOut, lcIn, wipeD, List.map_cons, List.map_nil, List.cons_append, List.nil_append, List.length_cons, List.length_nil, Nat.reduceAdd, Nat.reduceSub, Nat.zero_add, Nat.sub_self, List.replicate_zero, List.replicate_succ, List.getElem?_cons_zero, List.getElem?_cons_succ, List.set_cons_zero, List.set_cons_succ, Option.some.injEq, Dv.Slot.d.injEq, Dv.Slot.own.injEq, Ob.lst.injEq, Ob.dic.injEq, exists_eq_left', exists_eq_left, exists_and_left, List.cons.injEq, and_true, true_and, and_assoc, D.raw.injEq, V.ty.injEq, D.bl.injEq, D.int.injEq, D.str.injEq, D.tup.injEq, D.lst.injEq, Bool.true_eq_false, Bool.false_eq_true, if_true, if_false, ite_true, ite_false, reduceIte, reduceCtorEq, false_or, or_false, itemsD_tup, itemsD_lst, itemsD_dic, exists_const]
  intro hz
  have e : (rowsD fs fun r => D.int (f r : Nat)).map (fun x => x.1) = fs.map rowD := by
    unfold rowsD
    rw [List.map_map]
    rfl
  have e2 : fs.flatMap (fun r => List.replicate (f r) (rowD r)) = (spread fs f).map rowD := by
    unfold spread
    rw [List.map_flatMap]
    simp
  rw [e]
  refine lc2_flat (fun r => List.replicate (f r) (rowD r)) (fun r hr2 acc K hl2 hk => ?_) (by rw [e2]; simpa using hlen) ?_
  · simp only [dRet, dRetN, dSeq, dIfS, dSet, dPar, dAug, dFor, dDrop, dDropM, dSetM, dSetF, fLst, fItems, mBm, dNewD, dPutO, dNext, dBreak, dCont, dAndV, dOrV, dNotV, dAnd, dOr, dNot, dB, dIf, dTup, dLst, dOp, dUn, dCallP, dCall, lfP, dCons, dNil, dVar, dC, dChain, dOpO, dCallO, dItems, dEnum, dRange1, dRange2, dLc, dLc2, dNoPart, dPart, dSl, dTru, gtName, gtTup, gtCons, gtNil, dYes, dGet, dGetO, dRevT, dRevL, lcBody, lcOut, lcIn, wipeD, List.map_cons, List.map_nil, List.cons_append, List.nil_append, List.length_cons, List.length_nil, Nat.reduceAdd, Nat.reduceSub, Nat.zero_add, Nat.sub_self, List.replicate_zero, List.replicate_succ, List.getElem?_cons_zero, List.getElem?_cons_succ, List.set_cons_zero, List.set_cons_succ, Option.some.injEq, Dv.Slot.d.injEq, Dv.Slot.own.injEq, Ob.lst.injEq, Ob.dic.injEq, exists_eq_left', exists_eq_left, exists_and_left, List.cons.injEq, and_true, true_and, and_assoc, D.raw.injEq, V.ty.injEq, D.bl.injEq, D.int.injEq, D.str.injEq, D.tup.injEq, D.lst.injEq, Bool.true_eq_false, Bool.false_eq_true, if_true, if_false, ite_true, ite_false, reduceIte, reduceCtorEq, false_or, or_false, itemsD_tup, itemsD_lst, itemsD_dic, exists_const]
    refine ⟨_, rfl, tupK_rows _ _, shp_row r 7, ⟨_, rfl⟩, rowK r, nk_row r, .int (f r : Nat), by rw [dfind_rows, if_pos hr2], ?_⟩
    have hb := hf r hr2
    refine ⟨_, rfl, by omega, by omega, ?_⟩
    rw [rangeD_map, show ((f r : Nat) : Int).toNat = f r from rfl]
    have e3 : (List.range (f r)).flatMap (fun _ => [rowD r]) = List.replicate (f r) (rowD r) := by
      have : ∀ n, (List.range n).flatMap (fun _ => [rowD r]) = List.replicate n (rowD r) := fun n => by
        induction n with
        | zero => rfl
        | succ n ih =>
          rw [List.range_succ, List.flatMap_append, ih, List.replicate_succ']
          rfl
      exact this _
    refine lc2_flat (fun _ => [rowD r]) (fun j hj acc2 K2 hl3 hk2 => ?_) (by rw [e3]; exact hl2) (by rw [e3]; exact hk)
    simp only [dRet, dRetN, dSeq, dIfS, dSet, dPar, dAug, dFor, dDrop, dDropM, dSetM, dSetF, fLst, fItems, mBm, dNewD, dPutO, dNext, dBreak, dCont, dAndV, dOrV, dNotV, dAnd, dOr, dNot, dB, dIf, dTup, dLst, dOp, dUn, dCallP, dCall, lfP, dCons, dNil, dVar, dC, dChain, dOpO, dCallO, dItems, dEnum, dRange1, dRange2, dLc, dLc2, dNoPart, dPart, dSl, dTru, gtName, gtTup, gtCons, gtNil, dYes, dGet, dGetO, dRevT, dRevL, lcBody, lcOut, lcIn, wipeD, List.map_cons, List.map_nil, List.cons_append, List.nil_append, List.length_cons, List.length_nil, Nat.reduceAdd, Nat.reduceSub, Nat.zero_add, Nat.sub_self, List.replicate_zero, List.replicate_succ, List.getElem?_cons_zero, List.getElem?_cons_succ, List.set_cons_zero, List.set_cons_succ, Option.some.injEq, Dv.Slot.d.injEq, Dv.Slot.own.injEq, Ob.lst.injEq, Ob.dic.injEq, exists_eq_left', exists_eq_left, exists_and_left, List.cons.injEq, and_true, true_and, and_assoc, D.raw.injEq, V.ty.injEq, D.bl.injEq, D.int.injEq, D.str.injEq, D.tup.injEq, D.lst.injEq, Bool.true_eq_false, Bool.false_eq_true, if_true, if_false, ite_true, ite_false, reduceIte, reduceCtorEq, false_or, or_false, itemsD_tup, itemsD_lst, itemsD_dic, exists_const]
    refine ⟨?_, hk2⟩
    simp at hl3
    omega
  · rw [List.nil_append, e2]
    exact ⟨by simpa using hlen, spread fs f, _, rfl, .inr rfl, h⟩

def o_both_bags : PL := fun ds R => ∃ (d e : D) (rs ss : List Row), ds = [d, e] ∧ (d = .tup (rs.map rowD) ∨ d = .lst (rs.map rowD)) ∧ (e = .tup (ss.map rowD) ∨ e = .lst (ss.map rowD)) ∧ rs.length + ss.length ≤ sizeLine ∧ R (bagD (bagR (rs ++ ss)))
theorem ok_both_bags (T : Bn mg) (Df : Def K mg "both_bags" s_both_bags ["one", "other"]) (C_bag : Cal P w K mg base "bag" 4 ["rows"] (spP ⟨P, w, K⟩ 1 o_bag)) : Cal P w K mg base "both_bags" 5 ["one", "other"] (spP ⟨P, w, K⟩ 2 o_both_bags) := by
  have S := sc_both_bags
  refine Df.okP S rfl fun f cdv A outer s H E B hr => ?_
  refine ⟨_, (dss_one (ds_ret (de_fnP C_bag (hr.mono (by decide)) rfl (da_cons (de_op od_add (de_callTy cd_tuple rfl T.b_tuple rfl (da_cons (dv 0) da_nil)) (de_callTy cd_tuple rfl T.b_tuple rfl (da_cons (dv 1) da_nil))) da_nil)))), ?_⟩
  rintro ds R hl ⟨d, e, rs, ss, rfl, hd, he, hz, h⟩
  simp only [dRet, dRetN, dSeq, dIfS, dSet, dPar, dAug, dFor, dDrop, dDropM, dSetM, dSetF, fLst, fItems, mBm, dNewD, dPutO, dNext, dBreak, dCont, dAndV, dOrV, dNotV, dAnd, dOr, dNot, dB, dIf, dTup, dLst, dOp, dUn, dCallP, dCall, lfP, dCons, dNil, dVar, dC, dChain, dOpO, dCallO, dItems, dEnum, dRange1, dRange2, dLc, dLc2, dNoPart, dPart, dSl, dTru, gtName, gtTup, gtCons, gtNil, dYes, dGet, dGetO, dRevT, dRevL, lcBody, lcOut, lcIn, wipeD, List.map_cons, List.map_nil, List.cons_append, List.nil_append, List.length_cons, List.length_nil, Nat.reduceAdd, Nat.reduceSub, Nat.zero_add, Nat.sub_self, List.replicate_zero, List.replicate_succ, List.getElem?_cons_zero, List.getElem?_cons_succ, List.set_cons_zero, List.set_cons_succ, Option.some.injEq, Dv.Slot.d.injEq, Dv.Slot.own.injEq, Ob.lst.injEq, Ob.dic.injEq, exists_eq_left', exists_eq_left, exists_and_left, List.cons.injEq, and_true, true_and, and_assoc, D.raw.injEq, V.ty.injEq, D.bl.injEq, D.int.injEq, D.str.injEq, D.tup.injEq, D.lst.injEq, Bool.true_eq_false, Bool.false_eq_true, if_true, if_false, ite_true, ite_false, reduceIte, reduceCtorEq, false_or, or_false, itemsD_tup, itemsD_lst, itemsD_dic, exists_const]
  refine ⟨_, hd, _, he, ?_⟩
  refine ⟨by simpa using hz, rs ++ ss, _, rfl, .inl (by rw [List.map_append]), h⟩

def o_less_bags : PL := fun ds R => ∃ (d e : D) (rs ss : List Row), ds = [d, e] ∧ (d = .tup (rs.map rowD) ∨ d = .lst (rs.map rowD)) ∧ (e = .tup (ss.map rowD) ∨ e = .lst (ss.map rowD)) ∧ rs.length < 2 ^ 62 ∧ (spread (firsts rs) fun r => rs.count r - ss.count r).length ≤ sizeLine ∧ R (bagD (bagR (spread (firsts rs) fun r => rs.count r - ss.count r)))
theorem ok_less_bags (T : Bn mg) (Df : Def K mg "less_bags" s_less_bags ["one", "other"]) (C_counts_of : Cal P w K mg base "counts_of" 1 ["rows"] (spP ⟨P, w, K⟩ 1 o_counts_of)) (C_bag_of : Cal P w K mg base "bag_of" 5 ["counts"] (spP ⟨P, w, K⟩ 1 o_bag_of)) : Cal P w K mg base "less_bags" 6 ["one", "other"] (spP ⟨P, w, K⟩ 2 o_less_bags) := by
  have S := sc_less_bags
  refine Df.okP S rfl fun f cdv A outer s H E B hr => ?_
  refine ⟨_, (dss_cons (ds_asg (de_tup (da_cons (de_fnP C_counts_of (hr.mono (by decide)) rfl (da_cons (dv 0) da_nil)) (da_cons (de_fnP C_counts_of (hr.mono (by decide)) rfl (da_cons (dv 1) da_nil)) da_nil))) (dg_tup (n := 2) rfl (dgs_cons (dg_name (i := 2) S.nd rfl (by first | exact .inl rfl | exact .inr rfl)) (dgs_cons (dg_name (i := 3) S.nd rfl (by first | exact .inl rfl | exact .inr rfl)) dgs_nil)))) (dss_one (ds_ret (de_fnP C_bag_of (hr.mono (by decide)) rfl (da_cons (de_callTy (cd_dict hr.u66 rfl) rfl T.b_dict rfl (da_cons (de_lc (own := [("row", 4)]) rfl S.nd (di_val (dv 2)) (blkOk_by (by rfl)) (fun s H C cl fp => (dg_name (i := 4) S.nd rfl (by first | exact .inl rfl | exact .inr rfl))) (fun s H C cl fp => dts_nil) (fun s H C cl fp => (de_tup (da_cons (dv 4) (da_cons (de_callB (cd_max2 rfl) rfl T.b_max rfl (da_cons de_int (da_cons (de_op od_sub (de_ix (xd_dict hr.u66) (dv 2) (dv 4)) (de_get hr.u66 (dv 3) (da_cons (dv 4) (da_cons de_int da_nil)))) da_nil))) da_nil))))) da_nil)) da_nil))))), ?_⟩
  rintro ds R hl ⟨d, e, rs, ss, rfl, hd, he, hlen, hz, h⟩
  simp only [dRet, dRetN, dSeq, dIfS, dSet, dPar, dAug, dFor, dDrop, dDropM, dSetM, dSetF, fLst, fItems, mBm, dNewD, dPutO, dNext, dBreak, dCont, dAndV, dOrV, dNotV, dAnd, dOr, dNot, dB, dIf, dTup, dLst, dOp, dUn, dCallP, dCall, lfP, dCons, dNil, dVar, dC, dChain, dOpO, dCallO, dItems, dEnum, dRange1, dRange2, dLc, dLc2, dNoPart, dPart, dSl, dTru, gtName, gtTup, gtCons, gtNil, dYes, dGet, dGetO, dRevT, dRevL, lcBody, lcOut, lcIn, wipeD, List.map_cons, List.map_nil, List.cons_append, List.nil_append, List.length_cons, List.length_nil, Nat.reduceAdd, Nat.reduceSub, Nat.zero_add, Nat.sub_self, List.replicate_zero, List.replicate_succ, List.getElem?_cons_zero, List.getElem?_cons_succ, List.set_cons_zero, List.set_cons_succ, Option.some.injEq, Dv.Slot.d.injEq, Dv.Slot.own.injEq, Ob.lst.injEq, Ob.dic.injEq, exists_eq_left', exists_eq_left, exists_and_left, List.cons.injEq, and_true, true_and, and_assoc, D.raw.injEq, V.ty.injEq, D.bl.injEq, D.int.injEq, D.str.injEq, D.tup.injEq, D.lst.injEq, Bool.true_eq_false, Bool.false_eq_true, if_true, if_false, ite_true, ite_false, reduceIte, reduceCtorEq, false_or, or_false, itemsD_tup, itemsD_lst, itemsD_dic, exists_const]
  refine ⟨d, rs, rfl, hd, e, ss, rfl, he, by decide, ?_⟩
  refine ⟨_, itemsD_dic _, fun hz1 => ⟨hz1, ?_⟩⟩
  have e1 : (countsD rs).map (fun x => x.1) = (firsts rs).map rowD := by
    unfold countsD rowsD
    rw [List.map_map]
    rfl
  rw [e1]
  refine lc_mapg (fun r => .tup [rowD r, .int ((rs.count r - ss.count r : Nat) : Int)]) (fun r hr2 K hk => ?_) ?_
  · simp only [dRet, dRetN, dSeq, dIfS, dSet, dPar, dAug, dFor, dDrop, dDropM, dSetM, dSetF, fLst, fItems, mBm, dNewD, dPutO, dNext, dBreak, dCont, dAndV, dOrV, dNotV, dAnd, dOr, dNot, dB, dIf, dTup, dLst, dOp, dUn, dCallP, dCall, lfP, dCons, dNil, dVar, dC, dChain, dOpO, dCallO, dItems, dEnum, dRange1, dRange2, dLc, dLc2, dNoPart, dPart, dSl, dTru, gtName, gtTup, gtCons, gtNil, dYes, dGet, dGetO, dRevT, dRevL, lcBody, lcOut, lcIn, wipeD, List.map_cons, List.map_nil, List.cons_append, List.nil_append, List.length_cons, List.length_nil, Nat.reduceAdd, Nat.reduceSub, Nat.zero_add, Nat.sub_self, List.replicate_zero, List.replicate_succ, List.getElem?_cons_zero, List.getElem?_cons_succ, List.set_cons_zero, List.set_cons_succ, Option.some.injEq, Dv.Slot.d.injEq, Dv.Slot.own.injEq, Ob.lst.injEq, Ob.dic.injEq, exists_eq_left', exists_eq_left, exists_and_left, List.cons.injEq, and_true, true_and, and_assoc, D.raw.injEq, V.ty.injEq, D.bl.injEq, D.int.injEq, D.str.injEq, D.tup.injEq, D.lst.injEq, Bool.true_eq_false, Bool.false_eq_true, if_true, if_false, ite_true, ite_false, reduceIte, reduceCtorEq, false_or, or_false, itemsD_tup, itemsD_lst, itemsD_dic, exists_const, getP, intP]
    refine ⟨_, rfl, tupK_rows _ _, shp_row r 7, ⟨_, rfl⟩, rowK r, nk_row r, .int (rs.count r : Nat), by unfold countsD; rw [dfind_rows, if_pos hr2]; rfl, _, rfl, tupK_rows _ _, shp_row r 7, ⟨_, rfl⟩, rowK r, nk_row r, _, rfl, _, counts_get ss r, by decide, ?_⟩
    have e2 : (if ((rs.count r : Nat) : Int) - ((ss.count r : Nat) : Int) > 0 then ((rs.count r : Nat) : Int) - ((ss.count r : Nat) : Int) else 0) = ((rs.count r - ss.count r : Nat) : Int) := by
      split <;> omega
    rw [e2]
    exact hk
  · rw [List.nil_append]
    refine ⟨rowsD (firsts rs) fun r => .int ((rs.count r - ss.count r : Nat) : Int), ?_, tupK_rows _ _, fun p hp => ?_, ?_⟩
    · unfold rowsD
      rw [List.map_map]
      rfl
    · obtain ⟨r, _, rfl⟩ := List.mem_map.mp hp
      exact ⟨_, nk_row r⟩
    · rw [dmerge_rows _ (firsts_nodup rs)]
      refine ⟨firsts rs, _, rfl, fun r hr2 => ?_, hz, h⟩
      have := List.count_le_length (a := r) (l := rs)
      omega

def o_common_bags : PL := fun ds R => ∃ (d e : D) (rs ss : List Row), ds = [d, e] ∧ (d = .tup (rs.map rowD) ∨ d = .lst (rs.map rowD)) ∧ (e = .tup (ss.map rowD) ∨ e = .lst (ss.map rowD)) ∧ rs.length < 2 ^ 62 ∧ (spread (firsts rs) fun r => min (rs.count r) (ss.count r)).length ≤ sizeLine ∧ R (bagD (bagR (spread (firsts rs) fun r => min (rs.count r) (ss.count r))))
theorem ok_common_bags (T : Bn mg) (Df : Def K mg "common_bags" s_common_bags ["one", "other"]) (C_counts_of : Cal P w K mg base "counts_of" 1 ["rows"] (spP ⟨P, w, K⟩ 1 o_counts_of)) (C_bag_of : Cal P w K mg base "bag_of" 5 ["counts"] (spP ⟨P, w, K⟩ 1 o_bag_of)) : Cal P w K mg base "common_bags" 6 ["one", "other"] (spP ⟨P, w, K⟩ 2 o_common_bags) := by
  have S := sc_common_bags
  refine Df.okP S rfl fun f cdv A outer s H E B hr => ?_
  refine ⟨_, (dss_cons (ds_asg (de_tup (da_cons (de_fnP C_counts_of (hr.mono (by decide)) rfl (da_cons (dv 0) da_nil)) (da_cons (de_fnP C_counts_of (hr.mono (by decide)) rfl (da_cons (dv 1) da_nil)) da_nil))) (dg_tup (n := 2) rfl (dgs_cons (dg_name (i := 2) S.nd rfl (by first | exact .inl rfl | exact .inr rfl)) (dgs_cons (dg_name (i := 3) S.nd rfl (by first | exact .inl rfl | exact .inr rfl)) dgs_nil)))) (dss_one (ds_ret (de_fnP C_bag_of (hr.mono (by decide)) rfl (da_cons (de_callTy (cd_dict hr.u66 rfl) rfl T.b_dict rfl (da_cons (de_lc (own := [("row", 4)]) rfl S.nd (di_val (dv 2)) (blkOk_by (by rfl)) (fun s H C cl fp => (dg_name (i := 4) S.nd rfl (by first | exact .inl rfl | exact .inr rfl))) (fun s H C cl fp => dts_nil) (fun s H C cl fp => (de_tup (da_cons (dv 4) (da_cons (de_callB (cd_min2 rfl) rfl T.b_min rfl (da_cons (de_ix (xd_dict hr.u66) (dv 2) (dv 4)) (da_cons (de_get hr.u66 (dv 3) (da_cons (dv 4) (da_cons de_int da_nil))) da_nil))) da_nil))))) da_nil)) da_nil))))), ?_⟩
  rintro ds R hl ⟨d, e, rs, ss, rfl, hd, he, hlen, hz, h⟩
  simp only [dRet, dRetN, dSeq, dIfS, dSet, dPar, dAug, dFor, dDrop, dDropM, dSetM, dSetF, fLst, fItems, mBm, dNewD, dPutO, dNext, dBreak, dCont, dAndV, dOrV, dNotV, dAnd, dOr, dNot, dB, dIf, dTup, dLst, dOp, dUn, dCallP, dCall, lfP, dCons, dNil, dVar, dC, dChain, dOpO, dCallO, dItems, dEnum, dRange1, dRange2, dLc, dLc2, dNoPart, dPart, dSl, dTru, gtName, gtTup, gtCons, gtNil, dYes, dGet, dGetO, dRevT, dRevL, lcBody, lcOut, lcIn, wipeD, List.map_cons, List.map_nil, List.cons_append, List.nil_append, List.length_cons, List.length_nil, Nat.reduceAdd, Nat.reduceSub, Nat.zero_add, Nat.sub_self, List.replicate_zero, List.replicate_succ, List.getElem?_cons_zero, List.getElem?_cons_succ, List.set_cons_zero, List.set_cons_succ, Option.some.injEq, Dv.Slot.d.injEq, Dv.Slot.own.injEq, Ob.lst.injEq, Ob.dic.injEq, exists_eq_left', exists_eq_left, exists_and_left, List.cons.injEq, and_true, true_and, and_assoc, D.raw.injEq, V.ty.injEq, D.bl.injEq, D.int.injEq, D.str.injEq, D.tup.injEq, D.lst.injEq, Bool.true_eq_false, Bool.false_eq_true, if_true, if_false, ite_true, ite_false, reduceIte, reduceCtorEq, false_or, or_false, itemsD_tup, itemsD_lst, itemsD_dic, exists_const]
  refine ⟨d, rs, rfl, hd, e, ss, rfl, he, by decide, ?_⟩
  refine ⟨_, itemsD_dic _, fun hz1 => ⟨hz1, ?_⟩⟩
  have e1 : (countsD rs).map (fun x => x.1) = (firsts rs).map rowD := by
    unfold countsD rowsD
    rw [List.map_map]
    rfl
  rw [e1]
  refine lc_mapg (fun r => .tup [rowD r, .int ((min (rs.count r) (ss.count r) : Nat) : Int)]) (fun r hr2 K hk => ?_) ?_
  · simp only [dRet, dRetN, dSeq, dIfS, dSet, dPar, dAug, dFor, dDrop, dDropM, dSetM, dSetF, fLst, fItems, mBm, dNewD, dPutO, dNext, dBreak, dCont, dAndV, dOrV, dNotV, dAnd, dOr, dNot, dB, dIf, dTup, dLst, dOp, dUn, dCallP, dCall, lfP, dCons, dNil, dVar, dC, dChain, dOpO, dCallO, dItems, dEnum, dRange1, dRange2, dLc, dLc2, dNoPart, dPart, dSl, dTru, gtName, gtTup, gtCons, gtNil, dYes, dGet, dGetO, dRevT, dRevL, lcBody, lcOut, lcIn, wipeD, List.map_cons, List.map_nil, List.cons_append, List.nil_append, List.length_cons, List.length_nil, Nat.reduceAdd, Nat.reduceSub, Nat.zero_add, Nat.sub_self, List.replicate_zero, List.replicate_succ, List.getElem?_cons_zero, List.getElem?_cons_succ, List.set_cons_zero, List.set_cons_succ, Option.some.injEq, Dv.Slot.d.injEq, Dv.Slot.own.injEq, Ob.lst.injEq, Ob.dic.injEq, exists_eq_left', exists_eq_left, exists_and_left, List.cons.injEq, and_true, true_and, and_assoc, D.raw.injEq, V.ty.injEq, D.bl.injEq, D.int.injEq, D.str.injEq, D.tup.injEq, D.lst.injEq, Bool.true_eq_false, Bool.false_eq_true, if_true, if_false, ite_true, ite_false, reduceIte, reduceCtorEq, false_or, or_false, itemsD_tup, itemsD_lst, itemsD_dic, exists_const, getP, intP]
    refine ⟨_, rfl, tupK_rows _ _, shp_row r 7, ⟨_, rfl⟩, rowK r, nk_row r, .int (rs.count r : Nat), by unfold countsD; rw [dfind_rows, if_pos hr2]; rfl, _, rfl, tupK_rows _ _, shp_row r 7, ⟨_, rfl⟩, rowK r, nk_row r, _, rfl, _, counts_get ss r, by decide, ?_⟩
    have e2 : (if ((ss.count r : Nat) : Int) < ((rs.count r : Nat) : Int) then ((ss.count r : Nat) : Int) else ((rs.count r : Nat) : Int)) = ((min (rs.count r) (ss.count r) : Nat) : Int) := by
      split <;> omega
    rw [e2]
    exact hk
  · rw [List.nil_append]
    refine ⟨rowsD (firsts rs) fun r => .int ((min (rs.count r) (ss.count r) : Nat) : Int), ?_, tupK_rows _ _, fun p hp => ?_, ?_⟩
    · unfold rowsD
      rw [List.map_map]
      rfl
    · obtain ⟨r, _, rfl⟩ := List.mem_map.mp hp
      exact ⟨_, nk_row r⟩
    · rw [dmerge_rows _ (firsts_nodup rs)]
      refine ⟨firsts rs, _, rfl, fun r hr2 => ?_, hz, h⟩
      have := List.count_le_length (a := r) (l := rs)
      omega

def o_once_bag : PL := fun ds R => ∃ (d : D) (rs : List Row), ds = [d] ∧ (d = .tup (rs.map rowD) ∨ d = .lst (rs.map rowD)) ∧ R (bagD (bagR (firsts rs)))
theorem ok_once_bag (T : Bn mg) (Df : Def K mg "once_bag" s_once_bag ["one"]) (C_counts_of : Cal P w K mg base "counts_of" 1 ["rows"] (spP ⟨P, w, K⟩ 1 o_counts_of)) (C_bag : Cal P w K mg base "bag" 4 ["rows"] (spP ⟨P, w, K⟩ 1 o_bag)) : Cal P w K mg base "once_bag" 5 ["one"] (spP ⟨P, w, K⟩ 1 o_once_bag) := by
  have S := sc_once_bag
  refine Df.okP S rfl fun f cdv A outer s H E B hr => ?_
  refine ⟨_, (dss_one (ds_ret (de_fnP C_bag (hr.mono (by decide)) rfl (da_cons (de_callTy (cd_listD rfl) rfl T.b_list rfl (da_cons (de_fnP C_counts_of (hr.mono (by decide)) rfl (da_cons (dv 0) da_nil)) da_nil)) da_nil)))), ?_⟩
  rintro ds R hl ⟨d, rs, rfl, hd, h⟩
  simp only [dRet, dRetN, dSeq, dIfS, dSet, dPar, dAug, dFor, dDrop, dDropM, dSetM, dSetF, fLst, fItems, mBm, dNewD, dPutO, dNext, dBreak, dCont, dAndV, dOrV, dNotV, dAnd, dOr, dNot, dB, dIf, dTup, dLst, dOp, dUn, dCallP, dCall, lfP, dCons, dNil, dVar, dC, dChain, dOpO, dCallO, dItems, dEnum, dRange1, dRange2, dLc, dLc2, dNoPart, dPart, dSl, dTru, gtName, gtTup, gtCons, gtNil, dYes, dGet, dGetO, dRevT, dRevL, lcBody, lcOut, lcIn, wipeD, List.map_cons, List.map_nil, List.cons_append, List.nil_append, List.length_cons, List.length_nil, Nat.reduceAdd, Nat.reduceSub, Nat.zero_add, Nat.sub_self, List.replicate_zero, List.replicate_succ, List.getElem?_cons_zero, List.getElem?_cons_succ, List.set_cons_zero, List.set_cons_succ, Option.some.injEq, Dv.Slot.d.injEq, Dv.Slot.own.injEq, Ob.lst.injEq, Ob.dic.injEq, exists_eq_left', exists_eq_left, exists_and_left, List.cons.injEq, and_true, true_and, and_assoc, D.raw.injEq, V.ty.injEq, D.bl.injEq, D.int.injEq, D.str.injEq, D.tup.injEq, D.lst.injEq, Bool.true_eq_false, Bool.false_eq_true, if_true, if_false, ite_true, ite_false, reduceIte, reduceCtorEq, false_or, or_false, itemsD_tup, itemsD_lst, itemsD_dic, exists_const]
  refine ⟨d, rs, rfl, hd, _, rfl, firsts rs, _, rfl, .inr ?_, h⟩
  unfold countsD rowsD
  rw [List.map_map]
  rfl

def o_same : PL := fun ds R => ∃ (a b : Vl), ds = [a.d, b.d] ∧ R (sameV a b)
theorem ok_same (T : Bn mg) (Df : Def K mg "same" s_same ["a", "b"])  : Cal P w K mg base "same" 1 ["a", "b"] (spP ⟨P, w, K⟩ 2 o_same) := by
  have S := sc_same
  refine Df.okP S rfl fun f cdv A outer s H E B hr => ?_
  refine ⟨_, (dss_one (ds_ret (de_if (dw_pt (dw_or (dt_cmp od_isN (dv 0) de_non) (dw_or1 (dt_cmp od_isN (dv 1) de_non)))) de_non (de_cmp (od_eq hr.units 8) (dv 0) (dv 1))))), ?_⟩
  rintro ds R hl ⟨a, b, rfl, h⟩
  simp only [dRet, dRetN, dSeq, dIfS, dSet, dPar, dAug, dFor, dDrop, dDropM, dSetM, dSetF, fLst, fItems, mBm, dNewD, dPutO, dNext, dBreak, dCont, dAndV, dOrV, dNotV, dAnd, dOr, dNot, dB, dIf, dTup, dLst, dOp, dUn, dCallP, dCall, lfP, dCons, dNil, dVar, dC, dChain, dOpO, dCallO, dItems, dEnum, dRange1, dRange2, dLc, dLc2, dNoPart, dPart, dSl, dTru, gtName, gtTup, gtCons, gtNil, dYes, dGet, dGetO, dRevT, dRevL, lcBody, lcOut, lcIn, wipeD, List.map_cons, List.map_nil, List.cons_append, List.nil_append, List.length_cons, List.length_nil, Nat.reduceAdd, Nat.reduceSub, Nat.zero_add, Nat.sub_self, List.replicate_zero, List.replicate_succ, List.getElem?_cons_zero, List.getElem?_cons_succ, List.set_cons_zero, List.set_cons_succ, Option.some.injEq, Dv.Slot.d.injEq, Dv.Slot.own.injEq, Ob.lst.injEq, Ob.dic.injEq, exists_eq_left', exists_eq_left, exists_and_left, List.cons.injEq, and_true, true_and, and_assoc, D.raw.injEq, V.ty.injEq, D.bl.injEq, D.int.injEq, D.str.injEq, D.tup.injEq, D.lst.injEq, Bool.true_eq_false, Bool.false_eq_true, if_true, if_false, ite_true, ite_false, reduceIte, reduceCtorEq, false_or, or_false, itemsD_tup, itemsD_lst, itemsD_dic, exists_const]
  have na : ∀ v : Vl, isN v.d = decide (v = .non) := fun v => by cases v <;> rfl
  rw [na a, na b]
  unfold sameV at h
  by_cases h1 : a = .non
  · rw [if_pos (.inl h1)] at h
    rw [decide_eq_true h1]
    exact h
  · rw [decide_eq_false h1]
    by_cases h2 : b = .non
    · rw [if_pos (.inr h2)] at h
      rw [decide_eq_true h2]
      exact h
    · rw [if_neg (fun z => z.elim h1 h2)] at h
      rw [decide_eq_false h2]
      exact ⟨shp_vl a 8, shp_vl b 8, by rw [eqD_vl]; exact h⟩

def o_below : PL := fun ds R => ∃ (a b : Vl), ds = [a.d, b.d] ∧ R (belowV a b)
theorem ok_below (T : Bn mg) (Df : Def K mg "below" s_below ["a", "b"]) (C_place_in_order : Cal P w K mg base "place_in_order" 2 ["value"] (spP ⟨P, w, K⟩ 1 o_place_in_order)) : Cal P w K mg base "below" 3 ["a", "b"] (spP ⟨P, w, K⟩ 2 o_below) := by
  have S := sc_below
  refine Df.okP S rfl fun f cdv A outer s H E B hr => ?_
  refine ⟨_, (dss_one (ds_ret (de_if (dw_pt (dw_or (dt_cmp od_isN (dv 0) de_non) (dw_or1 (dt_cmp od_isN (dv 1) de_non)))) de_non (de_cmp (od_lt hr.units) (de_fnP C_place_in_order (hr.mono (by decide)) rfl (da_cons (dv 0) da_nil)) (de_fnP C_place_in_order (hr.mono (by decide)) rfl (da_cons (dv 1) da_nil)))))), ?_⟩
  rintro ds R hl ⟨a, b, rfl, h⟩
  simp only [dRet, dRetN, dSeq, dIfS, dSet, dPar, dAug, dFor, dDrop, dDropM, dSetM, dSetF, fLst, fItems, mBm, dNewD, dPutO, dNext, dBreak, dCont, dAndV, dOrV, dNotV, dAnd, dOr, dNot, dB, dIf, dTup, dLst, dOp, dUn, dCallP, dCall, lfP, dCons, dNil, dVar, dC, dChain, dOpO, dCallO, dItems, dEnum, dRange1, dRange2, dLc, dLc2, dNoPart, dPart, dSl, dTru, gtName, gtTup, gtCons, gtNil, dYes, dGet, dGetO, dRevT, dRevL, lcBody, lcOut, lcIn, wipeD, List.map_cons, List.map_nil, List.cons_append, List.nil_append, List.length_cons, List.length_nil, Nat.reduceAdd, Nat.reduceSub, Nat.zero_add, Nat.sub_self, List.replicate_zero, List.replicate_succ, List.getElem?_cons_zero, List.getElem?_cons_succ, List.set_cons_zero, List.set_cons_succ, Option.some.injEq, Dv.Slot.d.injEq, Dv.Slot.own.injEq, Ob.lst.injEq, Ob.dic.injEq, exists_eq_left', exists_eq_left, exists_and_left, List.cons.injEq, and_true, true_and, and_assoc, D.raw.injEq, V.ty.injEq, D.bl.injEq, D.int.injEq, D.str.injEq, D.tup.injEq, D.lst.injEq, Bool.true_eq_false, Bool.false_eq_true, if_true, if_false, ite_true, ite_false, reduceIte, reduceCtorEq, false_or, or_false, itemsD_tup, itemsD_lst, itemsD_dic, exists_const, cmpP]
  have na : ∀ v : Vl, isN v.d = decide (v = .non) := fun v => by cases v <;> rfl
  rw [na a, na b]
  unfold belowV at h
  by_cases h1 : a = .non
  · rw [if_pos (.inl h1)] at h
    rw [decide_eq_true h1]
    exact h
  · rw [decide_eq_false h1]
    by_cases h2 : b = .non
    · rw [if_pos (.inr h2)] at h
      rw [decide_eq_true h2]
      exact h
    · rw [if_neg (fun z => z.elim h1 h2)] at h
      rw [decide_eq_false h2]
      refine ⟨_, rfl, vl_raw a, _, rfl, vl_raw b, ?_⟩
      exact lt_pl a b h

def o_no : PL := fun ds R => ∃ d, ds = [d] ∧ isTr d = true ∧ R (noD d)
theorem ok_no (T : Bn mg) (Df : Def K mg "no" s_no ["truth"])  : Cal P w K mg base "no" 1 ["truth"] (spP ⟨P, w, K⟩ 1 o_no) := by
  have S := sc_no
  refine Df.okP S rfl fun f cdv A outer s H E B hr => ?_
  refine ⟨_, (dss_one (ds_ret (de_if (dt_cmp od_isN (dv 0) de_non) de_non (de_not (dv 0))))), ?_⟩
  rintro ds R hl ⟨d, rfl, hd, h⟩
  simp only [dRet, dRetN, dSeq, dIfS, dSet, dPar, dAug, dFor, dDrop, dDropM, dSetM, dSetF, fLst, fItems, mBm, dNewD, dPutO, dNext, dBreak, dCont, dAndV, dOrV, dNotV, dAnd, dOr, dNot, dB, dIf, dTup, dLst, dOp, dUn, dCallP, dCall, lfP, dCons, dNil, dVar, dC, dChain, dOpO, dCallO, dItems, dEnum, dRange1, dRange2, dLc, dLc2, dNoPart, dPart, dSl, dTru, gtName, gtTup, gtCons, gtNil, dYes, dGet, dGetO, dRevT, dRevL, lcBody, lcOut, lcIn, wipeD, List.map_cons, List.map_nil, List.cons_append, List.nil_append, List.length_cons, List.length_nil, Nat.reduceAdd, Nat.reduceSub, Nat.zero_add, Nat.sub_self, List.replicate_zero, List.replicate_succ, List.getElem?_cons_zero, List.getElem?_cons_succ, List.set_cons_zero, List.set_cons_succ, Option.some.injEq, Dv.Slot.d.injEq, Dv.Slot.own.injEq, Ob.lst.injEq, Ob.dic.injEq, exists_eq_left', exists_eq_left, exists_and_left, List.cons.injEq, and_true, true_and, and_assoc, D.raw.injEq, V.ty.injEq, D.bl.injEq, D.int.injEq, D.str.injEq, D.tup.injEq, D.lst.injEq, Bool.true_eq_false, Bool.false_eq_true, if_true, if_false, ite_true, ite_false, reduceIte, reduceCtorEq, false_or, or_false, itemsD_tup, itemsD_lst, itemsD_dic, exists_const]
  cases d with
  | non => exact h
  | bl b => exact ⟨b, rfl, h⟩
  | _ => cases hd

def o_both : PL := fun ds R => ∃ d e, ds = [d, e] ∧ isTr d = true ∧ isTr e = true ∧ R (bothD d e)
theorem ok_both (T : Bn mg) (Df : Def K mg "both" s_both ["one", "other"])  : Cal P w K mg base "both" 1 ["one", "other"] (spP ⟨P, w, K⟩ 2 o_both) := by
  have S := sc_both
  refine Df.okP S rfl fun f cdv A outer s H E B hr => ?_
  refine ⟨_, (dss_cons (ds_if (dw_pt (dw_or (dt_cmp od_isB (dv 0) de_bl) (dw_or1 (dt_cmp od_isB (dv 1) de_bl)))) (dss_one (ds_ret de_bl)) dss_nil) (dss_one (ds_ret (de_if (dw_pt (dw_or (dt_cmp od_isN (dv 0) de_non) (dw_or1 (dt_cmp od_isN (dv 1) de_non)))) de_non de_bl)))), ?_⟩
  rintro ds R hl ⟨d, e, rfl, hd, he, h⟩
  simp only [dRet, dRetN, dSeq, dIfS, dSet, dPar, dAug, dFor, dDrop, dDropM, dSetM, dSetF, fLst, fItems, mBm, dNewD, dPutO, dNext, dBreak, dCont, dAndV, dOrV, dNotV, dAnd, dOr, dNot, dB, dIf, dTup, dLst, dOp, dUn, dCallP, dCall, lfP, dCons, dNil, dVar, dC, dChain, dOpO, dCallO, dItems, dEnum, dRange1, dRange2, dLc, dLc2, dNoPart, dPart, dSl, dTru, gtName, gtTup, gtCons, gtNil, dYes, dGet, dGetO, dRevT, dRevL, lcBody, lcOut, lcIn, wipeD, List.map_cons, List.map_nil, List.cons_append, List.nil_append, List.length_cons, List.length_nil, Nat.reduceAdd, Nat.reduceSub, Nat.zero_add, Nat.sub_self, List.replicate_zero, List.replicate_succ, List.getElem?_cons_zero, List.getElem?_cons_succ, List.set_cons_zero, List.set_cons_succ, Option.some.injEq, Dv.Slot.d.injEq, Dv.Slot.own.injEq, Ob.lst.injEq, Ob.dic.injEq, exists_eq_left', exists_eq_left, exists_and_left, List.cons.injEq, and_true, true_and, and_assoc, D.raw.injEq, V.ty.injEq, D.bl.injEq, D.int.injEq, D.str.injEq, D.tup.injEq, D.lst.injEq, Bool.true_eq_false, Bool.false_eq_true, if_true, if_false, ite_true, ite_false, reduceIte, reduceCtorEq, false_or, or_false, itemsD_tup, itemsD_lst, itemsD_dic, exists_const]
  cases d with
  | non =>
    cases e with
    | non => exact ⟨_, rfl, _, rfl, h⟩
    | bl b => cases b <;> exact ⟨_, rfl, _, rfl, h⟩
    | _ => cases he
  | bl a =>
    cases e with
    | non => cases a <;> first | exact ⟨_, rfl, _, rfl, h⟩ | exact ⟨_, rfl, h⟩
    | bl b => cases a <;> cases b <;> first | exact ⟨_, rfl, _, rfl, h⟩ | exact ⟨_, rfl, h⟩
    | _ => cases he
  | _ => cases hd

def o_either : PL := fun ds R => ∃ d e, ds = [d, e] ∧ isTr d = true ∧ isTr e = true ∧ R (eitherD d e)
theorem ok_either (T : Bn mg) (Df : Def K mg "either" s_either ["one", "other"])  : Cal P w K mg base "either" 1 ["one", "other"] (spP ⟨P, w, K⟩ 2 o_either) := by
  have S := sc_either
  refine Df.okP S rfl fun f cdv A outer s H E B hr => ?_
  refine ⟨_, (dss_cons (ds_if (dw_pt (dw_or (dt_cmp od_isB (dv 0) de_bl) (dw_or1 (dt_cmp od_isB (dv 1) de_bl)))) (dss_one (ds_ret de_bl)) dss_nil) (dss_one (ds_ret (de_if (dw_pt (dw_or (dt_cmp od_isN (dv 0) de_non) (dw_or1 (dt_cmp od_isN (dv 1) de_non)))) de_non de_bl)))), ?_⟩
  rintro ds R hl ⟨d, e, rfl, hd, he, h⟩
  simp only [dRet, dRetN, dSeq, dIfS, dSet, dPar, dAug, dFor, dDrop, dDropM, dSetM, dSetF, fLst, fItems, mBm, dNewD, dPutO, dNext, dBreak, dCont, dAndV, dOrV, dNotV, dAnd, dOr, dNot, dB, dIf, dTup, dLst, dOp, dUn, dCallP, dCall, lfP, dCons, dNil, dVar, dC, dChain, dOpO, dCallO, dItems, dEnum, dRange1, dRange2, dLc, dLc2, dNoPart, dPart, dSl, dTru, gtName, gtTup, gtCons, gtNil, dYes, dGet, dGetO, dRevT, dRevL, lcBody, lcOut, lcIn, wipeD, List.map_cons, List.map_nil, List.cons_append, List.nil_append, List.length_cons, List.length_nil, Nat.reduceAdd, Nat.reduceSub, Nat.zero_add, Nat.sub_self, List.replicate_zero, List.replicate_succ, List.getElem?_cons_zero, List.getElem?_cons_succ, List.set_cons_zero, List.set_cons_succ, Option.some.injEq, Dv.Slot.d.injEq, Dv.Slot.own.injEq, Ob.lst.injEq, Ob.dic.injEq, exists_eq_left', exists_eq_left, exists_and_left, List.cons.injEq, and_true, true_and, and_assoc, D.raw.injEq, V.ty.injEq, D.bl.injEq, D.int.injEq, D.str.injEq, D.tup.injEq, D.lst.injEq, Bool.true_eq_false, Bool.false_eq_true, if_true, if_false, ite_true, ite_false, reduceIte, reduceCtorEq, false_or, or_false, itemsD_tup, itemsD_lst, itemsD_dic, exists_const]
  cases d with
  | non =>
    cases e with
    | non => exact ⟨_, rfl, _, rfl, h⟩
    | bl b => cases b <;> exact ⟨_, rfl, _, rfl, h⟩
    | _ => cases he
  | bl a =>
    cases e with
    | non => cases a <;> first | exact ⟨_, rfl, _, rfl, h⟩ | exact ⟨_, rfl, h⟩
    | bl b => cases a <;> cases b <;> first | exact ⟨_, rfl, _, rfl, h⟩ | exact ⟨_, rfl, h⟩
    | _ => cases he
  | _ => cases hd

end
end K00

set_option Elab.async false
set_option linter.all false
set_option maxRecDepth 100000
set_option maxHeartbeats 2000000
namespace K00
open PySem L2 Dv Bg

abbrev s__law_says : Stmt := top 27
theorem sc__law_says : FnScope ["seen", "due"] ["seen", "due"] (defScope s__law_says) := ⟨rfl, rfl, rfl, by decide +kernel, rfl, by decide +kernel, by decide +kernel⟩
abbrev s__law_same : Stmt := top 28
theorem sc__law_same : FnScope ["seen", "due", "k"] ["seen", "due"] (defScope s__law_same) := ⟨rfl, rfl, rfl, by decide +kernel, rfl, by decide +kernel, by decide +kernel⟩
abbrev s__law_place : Stmt := top 29
theorem sc__law_place : FnScope ["value"] ["value"] (defScope s__law_place) := ⟨rfl, rfl, rfl, by decide +kernel, rfl, by decide +kernel, by decide +kernel⟩
abbrev s__law_bag : Stmt := top 30
theorem sc__law_bag : FnScope ["rows", "told", "value", "k", "places"] ["rows"] (defScope s__law_bag) := ⟨rfl, rfl, rfl, by decide +kernel, rfl, by decide +kernel, by decide +kernel⟩
abbrev s__law_bag_less : Stmt := top 31
theorem sc__law_bag_less : FnScope ["one", "other", "left", "found", "row"] ["one", "other"] (defScope s__law_bag_less) := ⟨rfl, rfl, rfl, by decide +kernel, rfl, by decide +kernel, by decide +kernel⟩
abbrev s__law_is_number : Stmt := top 34
theorem sc__law_is_number : FnScope ["thing"] ["thing"] (defScope s__law_is_number) := ⟨rfl, rfl, rfl, by decide +kernel, rfl, by decide +kernel, by decide +kernel⟩
abbrev s__law_is_value : Stmt := top 36
theorem sc__law_is_value : FnScope ["value", "sign"] ["value"] (defScope s__law_is_value) := ⟨rfl, rfl, rfl, by decide +kernel, rfl, by decide +kernel, by decide +kernel⟩
abbrev s__law_is_bag : Stmt := top 37
theorem sc__law_is_bag : FnScope ["value", "width", "row", "one"] ["value", "width"] (defScope s__law_is_bag) := ⟨rfl, rfl, rfl, by decide +kernel, rfl, by decide +kernel, by decide +kernel⟩
section
variable {P : Program} {w : World} {K : PySem.W.Frag} {mg : Str → Option Value} {base : Heap}

def o__law_says : PL := fun ds R => ∃ a b, ds = [.bl a, .bl b] ∧ R (.bl (a == b))
theorem ok__law_says (T : Bn mg) (Df : Def K mg "_law_says" s__law_says ["seen", "due"])  : Cal P w K mg base "_law_says" 1 ["seen", "due"] (spP ⟨P, w, K⟩ 2 o__law_says) := by
  have S := sc__law_says
  refine Df.okP S rfl fun f cdv A outer s H E B hr => ?_
  refine ⟨_, (dss_one (ds_ret (de_and (de_callB cd_isi rfl T.b_isinstance rfl (da_cons (dv 0) (da_cons (de_ty rfl T.b_bool rfl) da_nil))) (de_one (de_cmp (od_eq hr.units 8) (dv 0) (dv 1)))))), ?_⟩
  rintro ds R hl ⟨a, b, rfl, h⟩
  simp only [dRet, dRetN, dSeq, dIfS, dSet, dPar, dAug, dFor, dDrop, dDropM, dSetM, dSetF, fLst, fItems, mBm, dNewD, dPutO, dNext, dBreak, dCont, dAndV, dOrV, dNotV, dAnd, dOr, dNot, dB, dIf, dTup, dLst, dOp, dUn, dCallP, dCall, lfP, dCons, dNil, dVar, dC, dChain, dOpO, dCallO, dItems, dEnum, dRange1, dRange2, dLc, dLc2, dNoPart, dPart, dSl, dTru, gtName, gtTup, gtCons, gtNil, dYes, dGet, dGetO, dRevT, dRevL, lcBody, lcOut, lcIn, wipeD, List.map_cons, List.map_nil, List.cons_append, List.nil_append, List.length_cons, List.length_nil, Nat.reduceAdd, Nat.reduceSub, Nat.zero_add, Nat.sub_self, List.replicate_zero, List.replicate_succ, List.getElem?_cons_zero, List.getElem?_cons_succ, List.set_cons_zero, List.set_cons_succ, Option.some.injEq, Dv.Slot.d.injEq, Dv.Slot.own.injEq, Ob.lst.injEq, Ob.dic.injEq, exists_eq_left', exists_eq_left, exists_and_left, List.cons.injEq, and_true, true_and, and_assoc, D.raw.injEq, V.ty.injEq, D.bl.injEq, D.int.injEq, D.str.injEq, D.tup.injEq, D.lst.injEq, Bool.true_eq_false, Bool.false_eq_true, if_true, if_false, ite_true, ite_false, reduceIte, reduceCtorEq, false_or, or_false, itemsD_tup, itemsD_lst, itemsD_dic, exists_const]
  refine ⟨_, isiD_eq (shp_raw (shp_bl 8 a)) (by decide), ?_⟩
  refine (if_pos rfl).mpr ⟨shp_bl _ a, shp_bl _ b, ?_⟩
  have e : eqD (.bl a) (.bl b) = (a == b) := by simp [eqD, D.py, PyData.eqv]
  rw [e]
  exact h

def o_smN (n : Nat) : PL := fun ds R => ∃ d, ds = [d, d] ∧ smOk n d = true ∧ R (.bl true)
theorem ok__law_same_up (T : Bn mg) (Df : Def K mg "_law_same" s__law_same ["seen", "due"]) (n k : Nat) (hn : n ≤ 7) (C_same : Cal P w K mg base "_law_same" k ["seen", "due"] (spP ⟨P, w, K⟩ 2 (o_smN n))) :
    Cal P w K mg base "_law_same" (k + 1) ["seen", "due"] (spP ⟨P, w, K⟩ 2 (o_smN (n + 1))) := by
  have S := sc__law_same
  refine Df.okP S rfl fun f cdv A outer s H E B hr => ?_
  refine ⟨_, (dss_cons (ds_if (dt_val (de_callB cd_isi rfl T.b_isinstance rfl (da_cons (dv 1) (da_cons (de_ty rfl T.b_tuple rfl) da_nil)))) (dss_cons (ds_if (dw_pt (dw_or (dt_not (dt_val (de_callB cd_isi rfl T.b_isinstance rfl (da_cons (dv 0) (da_cons (de_ty rfl T.b_tuple rfl) da_nil))))) (dw_or1 (dt_cmp (od_ne hr.units 8) (de_callB cd_len rfl T.b_len rfl (da_cons (dv 0) da_nil)) (de_callB cd_len rfl T.b_len rfl (da_cons (dv 1) da_nil)))))) (dss_one (ds_ret de_bl)) dss_nil) (dss_one (ds_ret (de_cmp (od_eq hr.units 8) (de_lc (own := [("k", 2)]) rfl S.nd (di_range1 rfl T.b_range (da_cons (de_callB cd_len rfl T.b_len rfl (da_cons (dv 1) da_nil)) da_nil)) (blkOk_by (by rfl)) (fun s H C cl fp => (dg_name (i := 2) S.nd rfl (by first | exact .inl rfl | exact .inr rfl))) (fun s H C cl fp => (dts_one (dt_not (dt_val (de_fnP C_same hr rfl (da_cons (de_ix xd_seq (dv 0) (dv 2)) (da_cons (de_ix xd_seq (dv 1) (dv 2)) da_nil))))))) (fun s H C cl fp => (dv 2))) (de_lst da_nil))))) dss_nil) (dss_cons (ds_if (dt_cmp od_isN (dv 1) de_non) (dss_one (ds_ret (de_cmp od_isN (dv 0) de_non))) dss_nil) (dss_cons (ds_if (dt_val (de_callB cd_isi rfl T.b_isinstance rfl (da_cons (dv 1) (da_cons (de_ty rfl T.b_str rfl) da_nil)))) (dss_one (ds_ret (de_and (de_callB cd_isi rfl T.b_isinstance rfl (da_cons (dv 0) (da_cons (de_ty rfl T.b_str rfl) da_nil))) (de_one (de_cmp (od_eq hr.units 8) (dv 0) (dv 1)))))) dss_nil) (dss_one (ds_ret (de_and (de_callB cd_isi rfl T.b_isinstance rfl (da_cons (dv 0) (da_cons (de_ty rfl T.b_int rfl) da_nil))) (de_and (de_cmp (od_eq hr.units 8) (de_callB cd_isi rfl T.b_isinstance rfl (da_cons (dv 0) (da_cons (de_ty rfl T.b_bool rfl) da_nil))) (de_callB cd_isi rfl T.b_isinstance rfl (da_cons (dv 1) (da_cons (de_ty rfl T.b_bool rfl) da_nil)))) (de_one (de_cmp (od_eq hr.units 8) (dv 0) (dv 1)))))))))), ?_⟩
  rintro ds R hl ⟨d, rfl, hd, h⟩
  simp only [dRet, dRetN, dSeq, dIfS, dSet, dPar, dAug, dFor, dDrop, dDropM, dSetM, dSetF, fLst, fItems, mBm, dNewD, dPutO, dNext, dBreak, dCont, dAndV, dOrV, dNotV, dAnd, dOr, dNot, dB, dIf, dTup, dLst, dOp, dUn, dCallP, dCall, lfP, dCons, dNil, dVar, dC, dChain, dOpO, dCallO, dItems, dEnum, dRange1, dRange2, dLc, dLc2, dNoPart, dPart, dSl, dTru, gtName, gtTup, gtCons, gtNil, dYes, dGet, dGetO, dRevT, dRevL, lcBody, lcOut, lcIn, wipeD, List.map_cons, List.map_nil, List.cons_append, List.nil_append, List.length_cons, List.length_nil, Nat.reduceAdd, Nat.reduceSub, Nat.zero_add, Nat.sub_self, List.replicate_zero, List.replicate_succ, List.getElem?_cons_zero, List.getElem?_cons_succ, List.set_cons_zero, List.set_cons_succ, Option.some.injEq, Dv.Slot.d.injEq, Dv.Slot.own.injEq, Ob.lst.injEq, Ob.dic.injEq, exists_eq_left', exists_eq_left, exists_and_left, List.cons.injEq, and_true, true_and, and_assoc, D.raw.injEq, V.ty.injEq, D.bl.injEq, D.int.injEq, D.str.injEq, D.tup.injEq, D.lst.injEq, Bool.true_eq_false, Bool.false_eq_true, if_true, if_false, ite_true, ite_false, reduceIte, reduceCtorEq, false_or, or_false, itemsD_tup, itemsD_lst, itemsD_dic, exists_const]
  have h8 : shp 8 d = true := shp_le (smOk_shp hd) (by omega)
  have hee : eqD d d = true := smOk_eq hd
  have ei : ∀ n, n ∈ ["bool", "int", "str", "tuple", "list", "dict"] → isiD d n = some (isI d n) := fun n hn => isiD_eq (shp_raw h8) hn
  refine ⟨_, ei _ (by decide), ?_⟩
  cases d with
  | tup xs =>
    refine (if_pos rfl).mpr ⟨_, ei _ (by decide), (if_neg (by show ¬ (false = true); decide)).mpr ⟨xs.length, rfl, fun hz => ⟨xs.length, rfl, fun _ => ⟨shp_int _ _, shp_int _ _, ?_⟩⟩⟩⟩
    rw [eq_int, decide_eq_true rfl]
    have hz2 := sizeLine_eq
    refine (if_neg (by decide)).mpr ⟨xs.length, rfl, fun _ => ⟨by omega, by omega, by simpa [rangeD] using hz, ?_⟩⟩
    rw [rangeD_map, show ((xs.length : Nat) : Int).toNat = xs.length from rfl]
    refine lc_filter (fun _ => false) (fun _ => .non) (fun j hj K hk => ?_) ?_
    · have hjl : j < xs.length := by simpa using hj
      have hx : xs[j]? = some xs[j] := List.getElem?_eq_getElem hjl
      have ea : ixD (.tup xs) (0 + (j : Nat)) = some xs[j] := by
        rw [Int.zero_add]
        exact atI_nat hx
      simp only [dRet, dRetN, dSeq, dIfS, dSet, dPar, dAug, dFor, dDrop, dDropM, dSetM, dSetF, fLst, fItems, mBm, dNewD, dPutO, dNext, dBreak, dCont, dAndV, dOrV, dNotV, dAnd, dOr, dNot, dB, dIf, dTup, dLst, dOp, dUn, dCallP, dCall, lfP, dCons, dNil, dVar, dC, dChain, dOpO, dCallO, dItems, dEnum, dRange1, dRange2, dLc, dLc2, dNoPart, dPart, dSl, dTru, gtName, gtTup, gtCons, gtNil, dYes, dGet, dGetO, dRevT, dRevL, lcBody, lcOut, lcIn, wipeD, List.map_cons, List.map_nil, List.cons_append, List.nil_append, List.length_cons, List.length_nil, Nat.reduceAdd, Nat.reduceSub, Nat.zero_add, Nat.sub_self, List.replicate_zero, List.replicate_succ, List.getElem?_cons_zero, List.getElem?_cons_succ, List.set_cons_zero, List.set_cons_succ, Option.some.injEq, Dv.Slot.d.injEq, Dv.Slot.own.injEq, Ob.lst.injEq, Ob.dic.injEq, exists_eq_left', exists_eq_left, exists_and_left, List.cons.injEq, and_true, true_and, and_assoc, D.raw.injEq, V.ty.injEq, D.bl.injEq, D.int.injEq, D.str.injEq, D.tup.injEq, D.lst.injEq, Bool.true_eq_false, Bool.false_eq_true, if_true, if_false, ite_true, ite_false, reduceIte, reduceCtorEq, false_or, or_false, itemsD_tup, itemsD_lst, itemsD_dic, exists_const, if_true, dNot]
      rw [smOk, List.all_eq_true] at hd
      exact ⟨_, ea, _, ea, xs[j], rfl, hd _ (List.getElem_mem hjl), _, rfl, hk⟩
    · refine ⟨Nat.zero_le _, ?_, ?_, ?_⟩
      · simp [shp_lst]
      · simp [shp_lst]
      · have en : (List.range xs.length).filter (fun _ => false) = [] := by simp [List.filter_eq_nil_iff]
        rw [eq_nil, en]
        exact h
  | non => exact h
  | str x => exact (if_neg Bool.false_ne_true).mpr ((if_neg Bool.false_ne_true).mpr ⟨_, ei _ (by decide), (if_pos rfl).mpr ⟨_, ei _ (by decide), (if_pos rfl).mpr ⟨h8, h8, by rw [hee]; exact h⟩⟩⟩)
  | int i => exact (if_neg Bool.false_ne_true).mpr ((if_neg Bool.false_ne_true).mpr ⟨_, ei _ (by decide), (if_neg Bool.false_ne_true).mpr ⟨_, ei _ (by decide), (if_pos rfl).mpr ⟨_, ei _ (by decide), _, ei _ (by decide), shp_bl _ _, shp_bl _ _, by
      rw [eq_bl, beq_self_eq_true]
      exact (if_pos rfl).mpr ⟨h8, h8, by rw [hee]; exact h⟩⟩⟩⟩)
  | bl i => exact (if_neg Bool.false_ne_true).mpr ((if_neg Bool.false_ne_true).mpr ⟨_, ei _ (by decide), (if_neg Bool.false_ne_true).mpr ⟨_, ei _ (by decide), (if_pos rfl).mpr ⟨_, ei _ (by decide), _, ei _ (by decide), shp_bl _ _, shp_bl _ _, by
      rw [eq_bl, beq_self_eq_true]
      exact (if_pos rfl).mpr ⟨h8, h8, by rw [hee]; exact h⟩⟩⟩⟩)
  | lst _ => cases hd
  | dic _ => cases hd
  | raw _ => cases hd
theorem ok_same_n (T : Bn mg) (Df : Def K mg "_law_same" s__law_same ["seen", "due"]) : ∀ n : Nat, n ≤ 8 → Cal P w K mg base "_law_same" (n + 1) ["seen", "due"] (spP ⟨P, w, K⟩ 2 (o_smN n))
  | 0, _ => Df.never fun ds R ⟨d, _, z, _⟩ => by simp [smOk] at z
  | n + 1, h => ok__law_same_up T Df n (n + 1) (by omega) (ok_same_n T Df n (by omega))
def o__law_same : PL := o_smN 6
theorem ok__law_same (T : Bn mg) (Df : Def K mg "_law_same" s__law_same ["seen", "due"]) : Cal P w K mg base "_law_same" 7 ["seen", "due"] (spP ⟨P, w, K⟩ 2 o__law_same) := ok_same_n T Df 6 (by decide)

def o__law_place : PL := fun ds R => ∃ v : Vl, ds = [v.d] ∧ R (plV v)
theorem ok__law_place (T : Bn mg) (Df : Def K mg "_law_place" s__law_place ["value"])  : Cal P w K mg base "_law_place" 1 ["value"] (spP ⟨P, w, K⟩ 1 o__law_place) := by
  have S := sc__law_place
  refine Df.okP S rfl fun f cdv A outer s H E B hr => ?_
  refine ⟨_, (dss_one (ds_ret (de_if (dt_cmp od_isN (dv 0) de_non) (de_tup (da_cons de_int (da_cons de_int (da_cons de_str da_nil)))) (de_if (dt_val (de_callB cd_isi rfl T.b_isinstance rfl (da_cons (dv 0) (da_cons (de_ty rfl T.b_str rfl) da_nil)))) (de_tup (da_cons de_int (da_cons de_int (da_cons (dv 0) da_nil)))) (de_tup (da_cons de_int (da_cons (dv 0) (da_cons de_str da_nil)))))))), ?_⟩
  rintro ds R hl ⟨v, rfl, h⟩
  simp only [dRet, dRetN, dSeq, dIfS, dSet, dPar, dAug, dFor, dDrop, dDropM, dSetM, dSetF, fLst, fItems, mBm, dNewD, dPutO, dNext, dBreak, dCont, dAndV, dOrV, dNotV, dAnd, dOr, dNot, dB, dIf, dTup, dLst, dOp, dUn, dCallP, dCall, lfP, dCons, dNil, dVar, dC, dChain, dOpO, dCallO, dItems, dEnum, dRange1, dRange2, dLc, dLc2, dNoPart, dPart, dSl, dTru, gtName, gtTup, gtCons, gtNil, dYes, dGet, dGetO, dRevT, dRevL, lcBody, lcOut, lcIn, wipeD, List.map_cons, List.map_nil, List.cons_append, List.nil_append, List.length_cons, List.length_nil, Nat.reduceAdd, Nat.reduceSub, Nat.zero_add, Nat.sub_self, List.replicate_zero, List.replicate_succ, List.getElem?_cons_zero, List.getElem?_cons_succ, List.set_cons_zero, List.set_cons_succ, Option.some.injEq, Dv.Slot.d.injEq, Dv.Slot.own.injEq, Ob.lst.injEq, Ob.dic.injEq, exists_eq_left', exists_eq_left, exists_and_left, List.cons.injEq, and_true, true_and, and_assoc, D.raw.injEq, V.ty.injEq, D.bl.injEq, D.int.injEq, D.str.injEq, D.tup.injEq, D.lst.injEq, Bool.true_eq_false, Bool.false_eq_true, if_true, if_false, ite_true, ite_false, reduceIte, reduceCtorEq, false_or, or_false, itemsD_tup, itemsD_lst, itemsD_dic, exists_const]
  cases v with
  | non => exact ⟨by decide, h⟩
  | int i => exact (if_neg Bool.false_ne_true).mpr ⟨_, isiD_eq (shp_raw (shp_int 8 i)) (by decide), (if_neg Bool.false_ne_true).mpr ⟨by decide, h⟩⟩
  | str x => exact (if_neg Bool.false_ne_true).mpr ⟨_, isiD_eq (fun _ z => nomatch z) (by decide), (if_pos rfl).mpr ⟨by decide, h⟩⟩

def o__law_bag : PL := fun ds R => ∃ (rs : List Row) (d : D), ds = [d] ∧ (d = .tup (rs.map rowD) ∨ d = .lst (rs.map rowD)) ∧ R (bagD (bagR rs))
theorem ok__law_bag (T : Bn mg) (Df : Def K mg "_law_bag" s__law_bag ["rows"]) (C__law_place : Cal P w K mg base "_law_place" 1 ["value"] (spP ⟨P, w, K⟩ 1 o__law_place)) : Cal P w K mg base "_law_bag" 2 ["rows"] (spP ⟨P, w, K⟩ 1 o__law_bag) := by
  have S := sc__law_bag
  refine Df.okP S rfl fun f cdv A outer s H E B hr => ?_
  refine ⟨_, (dss_cons (ds_set (i := 0) S.nd rfl (by first | exact .inl rfl | exact .inr rfl) (de_callTy cd_list rfl T.b_list rfl (da_cons (dv 0) da_nil))) (dss_cons (ds_setLc (own := [("k", 3)]) (i := 1) rfl S.nd rfl rfl (sw_true rfl rfl rfl (by decide +kernel)) (di_range1 rfl T.b_range (da_cons (de_callB cd_len rfl T.b_len rfl (da_cons (dv 0) da_nil)) da_nil)) (blkOk_by (by rfl)) (fun s H C cl fp => (dg_name (i := 3) S.nd rfl (by first | exact .inl rfl | exact .inr rfl))) (fun s H C cl fp => dts_nil) (fun s H C cl fp => (de_tup (da_cons (de_lc (own := [("value", 2)]) rfl S.nd (di_val (de_ix xd_seq (dv 0) (dv 3))) (blkOk_by (by rfl)) (fun s H C cl fp => (dg_name (i := 2) S.nd rfl (by first | exact .inl rfl | exact .inr rfl))) (fun s H C cl fp => dts_nil) (fun s H C cl fp => (de_fnP C__law_place (hr.mono (by decide)) rfl (da_cons (dv 2) da_nil)))) (da_cons (dv 3) da_nil))))) (dss_one (ds_ret (de_callTy cd_tuple rfl T.b_tuple rfl (da_cons (de_lc (own := [("places", 4), ("k", 3)]) rfl S.nd (di_val (de_callB (cd_sorted hr.u70) rfl T.b_sorted rfl (da_cons (dv 1) da_nil))) (blkOk_by (by rfl)) (fun s H C cl fp => (dg_tup (n := 2) rfl (dgs_cons (dg_name (i := 4) S.nd rfl (by first | exact .inl rfl | exact .inr rfl)) (dgs_cons (dg_name (i := 3) S.nd rfl (by first | exact .inl rfl | exact .inr rfl)) dgs_nil)))) (fun s H C cl fp => dts_nil) (fun s H C cl fp => (de_ix xd_seq (dv 0) (dv 3)))) da_nil)))))), ?_⟩
  rintro ds R hl ⟨rs, d, rfl, hd, h⟩
  simp only [dRet, dRetN, dSeq, dIfS, dSet, dPar, dAug, dFor, dDrop, dDropM, dSetM, dSetF, fLst, fItems, mBm, dNewD, dPutO, dNext, dBreak, dCont, dAndV, dOrV, dNotV, dAnd, dOr, dNot, dB, dIf, dTup, dLst, dOp, dUn, dCallP, dCall, lfP, dCons, dNil, dVar, dC, dChain, dOpO, dCallO, dItems, dEnum, dRange1, dRange2, dLc, dLc2, dNoPart, dPart, dSl, dTru, gtName, gtTup, gtCons, gtNil, dYes, dGet, dGetO, dRevT, dRevL, lcBody, lcOut, lcIn, wipeD, List.map_cons, List.map_nil, List.cons_append, List.nil_append, List.length_cons, List.length_nil, Nat.reduceAdd, Nat.reduceSub, Nat.zero_add, Nat.sub_self, List.replicate_zero, List.replicate_succ, List.getElem?_cons_zero, List.getElem?_cons_succ, List.set_cons_zero, List.set_cons_succ, Option.some.injEq, Dv.Slot.d.injEq, Dv.Slot.own.injEq, Ob.lst.injEq, Ob.dic.injEq, exists_eq_left', exists_eq_left, exists_and_left, List.cons.injEq, and_true, true_and, and_assoc, D.raw.injEq, V.ty.injEq, D.bl.injEq, D.int.injEq, D.str.injEq, D.tup.injEq, D.lst.injEq, Bool.true_eq_false, Bool.false_eq_true, if_true, if_false, ite_true, ite_false, reduceIte, reduceCtorEq, false_or, or_false, itemsD_tup, itemsD_lst, itemsD_dic, exists_const]
  have hzl := sizeLine_eq
  refine ⟨rs.map rowD, hd, rs.length, by simp [lenD], fun hz => ⟨by omega, by omega, by simpa [rangeD] using hz, ?_⟩⟩
  rw [rangeD_map, show ((rs.length : Nat) : Int).toNat = rs.length from rfl]
  refine lc_mapg (atL rs) (fun j hj K hk => ?_) ?_
  · have hjl : j < rs.length := by simpa using hj
    have hx : rs[j]? = some rs[j] := List.getElem?_eq_getElem hjl
    have ea : ixD (.lst (rs.map rowD)) (0 + (j : Nat)) = some (rowD rs[j]) := by
      rw [Int.zero_add]
      refine (atI_nat ?_ : atI (rs.map rowD) _ = _)
      rw [List.getElem?_map, hx]
      rfl
    rw [atL_eq hx] at hk
    simp only [dRet, dRetN, dSeq, dIfS, dSet, dPar, dAug, dFor, dDrop, dDropM, dSetM, dSetF, fLst, fItems, mBm, dNewD, dPutO, dNext, dBreak, dCont, dAndV, dOrV, dNotV, dAnd, dOr, dNot, dB, dIf, dTup, dLst, dOp, dUn, dCallP, dCall, lfP, dCons, dNil, dVar, dC, dChain, dOpO, dCallO, dItems, dEnum, dRange1, dRange2, dLc, dLc2, dNoPart, dPart, dSl, dTru, gtName, gtTup, gtCons, gtNil, dYes, dGet, dGetO, dRevT, dRevL, lcBody, lcOut, lcIn, wipeD, List.map_cons, List.map_nil, List.cons_append, List.nil_append, List.length_cons, List.length_nil, Nat.reduceAdd, Nat.reduceSub, Nat.zero_add, Nat.sub_self, List.replicate_zero, List.replicate_succ, List.getElem?_cons_zero, List.getElem?_cons_succ, List.set_cons_zero, List.set_cons_succ, Option.some.injEq, Dv.Slot.d.injEq, Dv.Slot.own.injEq, Ob.lst.injEq, Ob.dic.injEq, exists_eq_left', exists_eq_left, exists_and_left, List.cons.injEq, and_true, true_and, and_assoc, D.raw.injEq, V.ty.injEq, D.bl.injEq, D.int.injEq, D.str.injEq, D.tup.injEq, D.lst.injEq, Bool.true_eq_false, Bool.false_eq_true, if_true, if_false, ite_true, ite_false, reduceIte, reduceCtorEq, false_or, or_false, itemsD_tup, itemsD_lst, itemsD_dic, exists_const]
    refine ⟨_, ea, _, rfl, fun hz2 => ⟨hz2, ?_⟩⟩
    refine lc_mapg plV (fun v hv K2 hk2 => ?_) ?_
    · simp only [dRet, dRetN, dSeq, dIfS, dSet, dPar, dAug, dFor, dDrop, dDropM, dSetM, dSetF, fLst, fItems, mBm, dNewD, dPutO, dNext, dBreak, dCont, dAndV, dOrV, dNotV, dAnd, dOr, dNot, dB, dIf, dTup, dLst, dOp, dUn, dCallP, dCall, lfP, dCons, dNil, dVar, dC, dChain, dOpO, dCallO, dItems, dEnum, dRange1, dRange2, dLc, dLc2, dNoPart, dPart, dSl, dTru, gtName, gtTup, gtCons, gtNil, dYes, dGet, dGetO, dRevT, dRevL, lcBody, lcOut, lcIn, wipeD, List.map_cons, List.map_nil, List.cons_append, List.nil_append, List.length_cons, List.length_nil, Nat.reduceAdd, Nat.reduceSub, Nat.zero_add, Nat.sub_self, List.replicate_zero, List.replicate_succ, List.getElem?_cons_zero, List.getElem?_cons_succ, List.set_cons_zero, List.set_cons_succ, Option.some.injEq, Dv.Slot.d.injEq, Dv.Slot.own.injEq, Ob.lst.injEq, Ob.dic.injEq, exists_eq_left', exists_eq_left, exists_and_left, List.cons.injEq, and_true, true_and, and_assoc, D.raw.injEq, V.ty.injEq, D.bl.injEq, D.int.injEq, D.str.injEq, D.tup.injEq, D.lst.injEq, Bool.true_eq_false, Bool.false_eq_true, if_true, if_false, ite_true, ite_false, reduceIte, reduceCtorEq, false_or, or_false, itemsD_tup, itemsD_lst, itemsD_dic, exists_const]
      exact ⟨v, rfl, hk2⟩
    · rw [Int.zero_add]
      exact ⟨by decide, hk⟩
  · rw [List.nil_append, range_atL]
    refine ⟨4, by decide, sortOk_pairL rs, ?_⟩
    rw [sort_pairL]
    intro hz2
    refine ⟨hz2, lc_mapg (fun p => rowD p.1) (fun p hp K hk => ?_) ?_⟩
    · simp only [dRet, dRetN, dSeq, dIfS, dSet, dPar, dAug, dFor, dDrop, dDropM, dSetM, dSetF, fLst, fItems, mBm, dNewD, dPutO, dNext, dBreak, dCont, dAndV, dOrV, dNotV, dAnd, dOr, dNot, dB, dIf, dTup, dLst, dOp, dUn, dCallP, dCall, lfP, dCons, dNil, dVar, dC, dChain, dOpO, dCallO, dItems, dEnum, dRange1, dRange2, dLc, dLc2, dNoPart, dPart, dSl, dTru, gtName, gtTup, gtCons, gtNil, dYes, dGet, dGetO, dRevT, dRevL, lcBody, lcOut, lcIn, wipeD, List.map_cons, List.map_nil, List.cons_append, List.nil_append, List.length_cons, List.length_nil, Nat.reduceAdd, Nat.reduceSub, Nat.zero_add, Nat.sub_self, List.replicate_zero, List.replicate_succ, List.getElem?_cons_zero, List.getElem?_cons_succ, List.set_cons_zero, List.set_cons_succ, Option.some.injEq, Dv.Slot.d.injEq, Dv.Slot.own.injEq, Ob.lst.injEq, Ob.dic.injEq, exists_eq_left', exists_eq_left, exists_and_left, List.cons.injEq, and_true, true_and, and_assoc, D.raw.injEq, V.ty.injEq, D.bl.injEq, D.int.injEq, D.str.injEq, D.tup.injEq, D.lst.injEq, Bool.true_eq_false, Bool.false_eq_true, if_true, if_false, ite_true, ite_false, reduceIte, reduceCtorEq, false_or, or_false, itemsD_tup, itemsD_lst, itemsD_dic, exists_const, pairL]
      refine ⟨_, ?_, hk⟩
      refine (atI_nat ?_ : atI (rs.map rowD) _ = _)
      rw [List.getElem?_map, sorted_at rs hp]
      rfl
    · have e : (rs.zipIdx.mergeSort ordK).map (fun p => rowD p.1) = (bagR rs).map rowD := by
        unfold bagR
        rw [List.map_map]
        rfl
      rw [List.nil_append, e]
      exact h

def o__law_bag_less : PL := fun ds R => ∃ (rs ss : List Row) (d e : D), ds = [d, e] ∧ (d = .tup (rs.map rowD) ∨ d = .lst (rs.map rowD)) ∧ (e = .tup (ss.map rowD) ∨ e = .lst (ss.map rowD)) ∧ ss.length ≤ sizeLine ∧ R (bagD (bagR (lessGo ss rs)))
theorem ok__law_bag_less (T : Bn mg) (Df : Def K mg "_law_bag_less" s__law_bag_less ["one", "other"]) (C__law_bag : Cal P w K mg base "_law_bag" 2 ["rows"] (spP ⟨P, w, K⟩ 1 o__law_bag)) : Cal P w K mg base "_law_bag_less" 3 ["one", "other"] (spP ⟨P, w, K⟩ 2 o__law_bag_less) := by
  have S := sc__law_bag_less
  refine Df.okP S rfl fun f cdv A outer s H E B hr => ?_
  refine ⟨_, (dss_cons (ds_setF (i := 2) S.nd rfl (by first | exact .inl rfl | exact .inr rfl) (df_list rfl T.b_list rfl (da_cons (dv 1) da_nil))) (dss_cons (ds_setF (i := 3) S.nd rfl (by first | exact .inl rfl | exact .inr rfl) (df_lst da_nil)) (dss_cons (ds_for PassesOwn.never rfl (di_val (dv 0)) (dg_name (i := 4) S.nd rfl (by first | exact .inl rfl | exact .inr rfl)) (dss_one (ds_if (dt_cmpO (od_in hr.u65 8) (dv 4) (pv 2)) (dss_one (ds_exprM (dm_bm PySem.F.slot_list_remove PySem.F.type_list_remove (ow_remove hr.u65 8) (pv 2) (da_cons (dv 4) da_nil)))) (dss_one (ds_exprM (dm_bm PySem.F.slot_list_append PySem.F.type_list_append ow_append (pv 3) (da_cons (dv 4) da_nil))))))) (dss_freeze 3 (dss_one (ds_ret (de_fnP C__law_bag (hr.mono (by decide)) rfl (da_cons (dv 3) da_nil)))))))), ?_⟩
  rintro ds R hl ⟨rs, ss, d, e, rfl, hd, he, hzs, h⟩
  simp only [dRet, dRetN, dSeq, dIfS, dSet, dPar, dAug, dFor, dDrop, dDropM, dSetM, dSetF, fLst, fItems, mBm, dNewD, dPutO, dNext, dBreak, dCont, dAndV, dOrV, dNotV, dAnd, dOr, dNot, dB, dIf, dTup, dLst, dOp, dUn, dCallP, dCall, lfP, dCons, dNil, dVar, dC, dChain, dOpO, dCallO, dItems, dEnum, dRange1, dRange2, dLc, dLc2, dNoPart, dPart, dSl, dTru, gtName, gtTup, gtCons, gtNil, dYes, dGet, dGetO, dRevT, dRevL, lcBody, lcOut, lcIn, wipeD, List.map_cons, List.map_nil, List.cons_append, List.nil_append, List.length_cons, List.length_nil, Nat.reduceAdd, Nat.reduceSub, Nat.zero_add, Nat.sub_self, List.replicate_zero, List.replicate_succ, List.getElem?_cons_zero, List.getElem?_cons_succ, List.set_cons_zero, List.set_cons_succ, Option.some.injEq, Dv.Slot.d.injEq, Dv.Slot.own.injEq, Ob.lst.injEq, Ob.dic.injEq, exists_eq_left', exists_eq_left, exists_and_left, List.cons.injEq, and_true, true_and, and_assoc, D.raw.injEq, V.ty.injEq, D.bl.injEq, D.int.injEq, D.str.injEq, D.tup.injEq, D.lst.injEq, Bool.true_eq_false, Bool.false_eq_true, if_true, if_false, ite_true, ite_false, reduceIte, reduceCtorEq, false_or, or_false, itemsD_tup, itemsD_lst, itemsD_dic, exists_const]
  refine ⟨ss.map rowD, he, Nat.zero_le _, rs.map rowD, (by rcases hd with rfl | rfl <;> rfl), fun hz => ?_⟩
  rw [List.length_map] at hz
  refine for_mapg (pre := []) (fun qs ρ _ => ∃ (left found : List Row) (x : Slot), ρ = [.d d, .d e, .own (.lst (left.map rowD)), .own (.lst (found.map rowD)), x] ∧ left.length ≤ ss.length ∧ found.length ≤ qs.length ∧ ∀ rest, rs = qs ++ rest → found ++ lessGo left rest = lessGo ss rs) ⟨ss, [], .un, rfl, Nat.le_refl _, Nat.le_refl _, fun rest e => by rw [e]; rfl⟩ ?_ ?_
  · rintro qs r rest er ρ s ⟨left, found, x, rfl, h1, h2, h3⟩ K hK
    rw [List.nil_append] at er
    have hlen : qs.length < rs.length := by
      have := congrArg List.length er
      rw [List.length_append, List.length_cons] at this
      omega
    have h4 := h3 _ er
    simp only [dRet, dRetN, dSeq, dIfS, dSet, dPar, dAug, dFor, dDrop, dDropM, dSetM, dSetF, fLst, fItems, mBm, dNewD, dPutO, dNext, dBreak, dCont, dAndV, dOrV, dNotV, dAnd, dOr, dNot, dB, dIf, dTup, dLst, dOp, dUn, dCallP, dCall, lfP, dCons, dNil, dVar, dC, dChain, dOpO, dCallO, dItems, dEnum, dRange1, dRange2, dLc, dLc2, dNoPart, dPart, dSl, dTru, gtName, gtTup, gtCons, gtNil, dYes, dGet, dGetO, dRevT, dRevL, lcBody, lcOut, lcIn, wipeD, List.map_cons, List.map_nil, List.cons_append, List.nil_append, List.length_cons, List.length_nil, Nat.reduceAdd, Nat.reduceSub, Nat.zero_add, Nat.sub_self, List.replicate_zero, List.replicate_succ, List.getElem?_cons_zero, List.getElem?_cons_succ, List.set_cons_zero, List.set_cons_succ, Option.some.injEq, Dv.Slot.d.injEq, Dv.Slot.own.injEq, Ob.lst.injEq, Ob.dic.injEq, exists_eq_left', exists_eq_left, exists_and_left, List.cons.injEq, and_true, true_and, and_assoc, D.raw.injEq, V.ty.injEq, D.bl.injEq, D.int.injEq, D.str.injEq, D.tup.injEq, D.lst.injEq, Bool.true_eq_false, Bool.false_eq_true, if_true, if_false, ite_true, ite_false, reduceIte, reduceCtorEq, false_or, or_false, itemsD_tup, itemsD_lst, itemsD_dic, exists_const]
    have sh : ∀ x ∈ left.map rowD, shp 8 x = true := fun x hx => by
      obtain ⟨y, _, rfl⟩ := List.mem_map.mp hx
      exact shp_row y 7
    refine ⟨shp_row r 7, sh, rfl, ?_⟩
    rw [inD_row]
    by_cases hm : r ∈ left
    · rw [decide_eq_true hm]
      refine (if_pos rfl).mpr ⟨shp_row r 7, sh, rfl, ?_, hK _ _ ?_⟩
      · rw [List.length_map]; exact Nat.le_trans h1 hzs
      · rw [rem_row]
        refine ⟨left.erase r, found, _, rfl, Nat.le_trans (List.length_erase_le) h1, by simp; omega, fun rest2 e2 => ?_⟩
        have : rest2 = rest := by
          rw [er] at e2
          simpa using e2.symm
        subst this
        rw [← h4, lessGo, if_pos hm]
    · rw [decide_eq_false hm]
      refine (if_neg Bool.false_ne_true).mpr ⟨?_, hK _ _ ?_⟩
      · rw [List.length_map]; omega
      · refine ⟨left, found ++ [r], _, by rw [List.map_append]; rfl, h1, by simp; omega, fun rest2 e2 => ?_⟩
        have : rest2 = rest := by
          rw [er] at e2
          simpa using e2.symm
        subst this
        rw [← h4, lessGo, if_neg hm]
        simp
  · rintro ρ s ⟨left, found, x, rfl, h1, h2, h3⟩
    have h4 := h3 [] (by simp)
    rw [lessGo, List.append_nil] at h4
    subst h4
    refine .inl ⟨_, rfl, ?_⟩
    exact ⟨_, rfl, rfl, _, _, rfl, .inr rfl, h⟩

def o__law_is_number : PL := fun ds R => ∃ d, ds = [d] ∧ (∀ v, d ≠ .raw v) ∧ R (.bl (Bg.isNum d))
theorem ok__law_is_number (T : Bn mg) (Df : Def K mg "_law_is_number" s__law_is_number ["thing"])  : Cal P w K mg base "_law_is_number" 1 ["thing"] (spP ⟨P, w, K⟩ 1 o__law_is_number) := by
  have S := sc__law_is_number
  refine Df.okP S rfl fun f cdv A outer s H E B hr => ?_
  refine ⟨_, (dss_one (ds_ret (de_and (de_callB cd_isi rfl T.b_isinstance rfl (da_cons (dv 0) (da_cons (de_ty rfl T.b_int rfl) da_nil))) (de_one (de_not (de_callB cd_isi rfl T.b_isinstance rfl (da_cons (dv 0) (da_cons (de_ty rfl T.b_bool rfl) da_nil)))))))), ?_⟩
  rintro ds R hl ⟨d, rfl, hd, h⟩
  have e1 := isiD_eq (n := "int") hd (by decide)
  have e2 := isiD_eq (n := "bool") hd (by decide)
  simp only [dRet, dRetN, dSeq, dIfS, dSet, dPar, dAug, dFor, dDrop, dDropM, dSetM, dSetF, fLst, fItems, mBm, dNewD, dPutO, dNext, dBreak, dCont, dAndV, dOrV, dNotV, dAnd, dOr, dNot, dB, dIf, dTup, dLst, dOp, dUn, dCallP, dCall, lfP, dCons, dNil, dVar, dC, dChain, dOpO, dCallO, dItems, dEnum, dRange1, dRange2, dLc, dLc2, dNoPart, dPart, dSl, dTru, gtName, gtTup, gtCons, gtNil, dYes, dGet, dGetO, dRevT, dRevL, lcBody, lcOut, lcIn, wipeD, List.map_cons, List.map_nil, List.cons_append, List.nil_append, List.length_cons, List.length_nil, Nat.reduceAdd, Nat.reduceSub, Nat.zero_add, Nat.sub_self, List.replicate_zero, List.replicate_succ, List.getElem?_cons_zero, List.getElem?_cons_succ, List.set_cons_zero, List.set_cons_succ, Option.some.injEq, Dv.Slot.d.injEq, Dv.Slot.own.injEq, Ob.lst.injEq, Ob.dic.injEq, exists_eq_left', exists_eq_left, exists_and_left, List.cons.injEq, and_true, true_and, and_assoc, D.raw.injEq, V.ty.injEq, D.bl.injEq, D.int.injEq, D.str.injEq, D.tup.injEq, D.lst.injEq, Bool.true_eq_false, Bool.false_eq_true, if_true, if_false, ite_true, ite_false, reduceIte, reduceCtorEq, false_or, or_false, itemsD_tup, itemsD_lst, itemsD_dic, exists_const]
  cases d <;> simp_all [isI, Bg.isNum]

def o__law_is_value : PL := fun ds R => ∃ d, ds = [d] ∧ shp 8 d = true ∧ R (.bl (isValD d))
theorem ok__law_is_value (T : Bn mg) (Df : Def K mg "_law_is_value" s__law_is_value ["value"]) (C__law_is_number : Cal P w K mg base "_law_is_number" 1 ["thing"] (spP ⟨P, w, K⟩ 1 o__law_is_number)) : Cal P w K mg base "_law_is_value" 2 ["value"] (spP ⟨P, w, K⟩ 1 o__law_is_value) := by
  have S := sc__law_is_value
  refine Df.okP S rfl fun f cdv A outer s H E B hr => ?_
  refine ⟨_, (dss_one (ds_ret (de_or (de_cmp od_isN (dv 0) de_non) (de_or (de_fnP C__law_is_number (hr.mono (by decide)) rfl (da_cons (dv 0) da_nil)) (de_one (de_and (de_callB cd_isi rfl T.b_isinstance rfl (da_cons (dv 0) (da_cons (de_ty rfl T.b_str rfl) da_nil))) (de_one (de_cmp (od_eq hr.units 8) (de_lc (own := [("sign", 1)]) rfl S.nd (di_val (dv 0)) (blkOk_by (by rfl)) (fun s H C cl fp => (dg_name (i := 1) S.nd rfl (by first | exact .inl rfl | exact .inr rfl))) (fun s H C cl fp => (dts_one (dt_not (dt_chain (od_le hr.units) (od_le hr.units) de_str (dv 1) de_str)))) (fun s H C cl fp => (dv 1))) (de_lst da_nil))))))))), ?_⟩
  rintro ds R hl ⟨d, rfl, hd, h⟩
  simp only [dRet, dRetN, dSeq, dIfS, dSet, dPar, dAug, dFor, dDrop, dDropM, dSetM, dSetF, fLst, fItems, mBm, dNewD, dPutO, dNext, dBreak, dCont, dAndV, dOrV, dNotV, dAnd, dOr, dNot, dB, dIf, dTup, dLst, dOp, dUn, dCallP, dCall, lfP, dCons, dNil, dVar, dC, dChain, dOpO, dCallO, dItems, dEnum, dRange1, dRange2, dLc, dLc2, dNoPart, dPart, dSl, dTru, gtName, gtTup, gtCons, gtNil, dYes, dGet, dGetO, dRevT, dRevL, lcBody, lcOut, lcIn, wipeD, List.map_cons, List.map_nil, List.cons_append, List.nil_append, List.length_cons, List.length_nil, Nat.reduceAdd, Nat.reduceSub, Nat.zero_add, Nat.sub_self, List.replicate_zero, List.replicate_succ, List.getElem?_cons_zero, List.getElem?_cons_succ, List.set_cons_zero, List.set_cons_succ, Option.some.injEq, Dv.Slot.d.injEq, Dv.Slot.own.injEq, Ob.lst.injEq, Ob.dic.injEq, exists_eq_left', exists_eq_left, exists_and_left, List.cons.injEq, and_true, true_and, and_assoc, D.raw.injEq, V.ty.injEq, D.bl.injEq, D.int.injEq, D.str.injEq, D.tup.injEq, D.lst.injEq, Bool.true_eq_false, Bool.false_eq_true, if_true, if_false, ite_true, ite_false, reduceIte, reduceCtorEq, false_or, or_false, itemsD_tup, itemsD_lst, itemsD_dic, exists_const]
  unfold isValD at h
  cases h1 : isN d with
  | true => rw [h1] at h; exact h
  | false =>
    refine ⟨d, rfl, shp_raw hd, _, rfl, ?_⟩
    cases h2 : Bg.isNum d with
    | true => rw [h1, h2] at h; exact h
    | false =>
      rw [h1, h2] at h
      refine ⟨_, isiD_eq (shp_raw hd) (by decide), ?_⟩
      cases d with
      | str x =>
        refine (if_pos rfl).mpr ⟨signsD x, rfl, fun hz => ⟨hz, ?_⟩⟩
        refine lc_filt (fun d => !azD d) (fun d hd' K hk => ?_) ?_
        · have hs := sign_shp hd d hd'
          obtain ⟨k, _, rfl⟩ := List.mem_map.mp hd'
          simp only [dRet, dRetN, dSeq, dIfS, dSet, dPar, dAug, dFor, dDrop, dDropM, dSetM, dSetF, fLst, fItems, mBm, dNewD, dPutO, dNext, dBreak, dCont, dAndV, dOrV, dNotV, dAnd, dOr, dNot, dB, dIf, dTup, dLst, dOp, dUn, dCallP, dCall, lfP, dCons, dNil, dVar, dC, dChain, dOpO, dCallO, dItems, dEnum, dRange1, dRange2, dLc, dLc2, dNoPart, dPart, dSl, dTru, gtName, gtTup, gtCons, gtNil, dYes, dGet, dGetO, dRevT, dRevL, lcBody, lcOut, lcIn, wipeD, List.map_cons, List.map_nil, List.cons_append, List.nil_append, List.length_cons, List.length_nil, Nat.reduceAdd, Nat.reduceSub, Nat.zero_add, Nat.sub_self, List.replicate_zero, List.replicate_succ, List.getElem?_cons_zero, List.getElem?_cons_succ, List.set_cons_zero, List.set_cons_succ, Option.some.injEq, Dv.Slot.d.injEq, Dv.Slot.own.injEq, Ob.lst.injEq, Ob.dic.injEq, exists_eq_left', exists_eq_left, exists_and_left, List.cons.injEq, and_true, true_and, and_assoc, D.raw.injEq, V.ty.injEq, D.bl.injEq, D.int.injEq, D.str.injEq, D.tup.injEq, D.lst.injEq, Bool.true_eq_false, Bool.false_eq_true, if_true, if_false, ite_true, ite_false, reduceIte, reduceCtorEq, false_or, or_false, itemsD_tup, itemsD_lst, itemsD_dic, exists_const, cmpP]
          refine ⟨8, by decide, by decide +kernel, hs, rfl, (fun z => nomatch z), ?_⟩
          unfold azD at hk
          cases q : ltD (.str ⟨#[k]⟩) (.str "a") with
          | true =>
            rw [q] at hk
            exact hk
          | false =>
            rw [q] at hk
            refine ⟨8, by decide, hs, by decide +kernel, rfl, (fun z => nomatch z), ?_⟩
            cases q2 : ltD (.str "z") (.str ⟨#[k]⟩) with
            | true => rw [q2] at hk; exact hk
            | false => rw [q2] at hk; exact hk
        · refine ⟨Nat.zero_le _, ?_, by simp [shp_lst], ?_⟩
          · rw [shp_lst, List.all_eq_true]
            intro y hy
            have hy := (List.mem_filter.mp hy).1
            obtain ⟨k, _, rfl⟩ := List.mem_map.mp hy
            have := sign_shp hd _ hy
            rw [shp_str] at *
            exact this
          · rw [eq_nil, List.nil_append]
            have e : ((signsD x).filter fun d => !azD d).isEmpty = (signsD x).all azD := by
              rw [Bool.eq_iff_iff, List.isEmpty_iff, List.filter_eq_nil_iff, List.all_eq_true]
              simp
            rw [e]
            exact h
      | _ => exact (if_neg Bool.false_ne_true).mpr h

def o__law_is_bag : PL := fun ds R => ∃ d n, ds = [d, .int n] ∧ shp 8 d = true ∧ ∀ b, (b = true ↔ IsBag d n) → R (.bl b)
theorem ok__law_is_bag (T : Bn mg) (Df : Def K mg "_law_is_bag" s__law_is_bag ["value", "width"]) (C__law_is_value : Cal P w K mg base "_law_is_value" 2 ["value"] (spP ⟨P, w, K⟩ 1 o__law_is_value)) (C__law_bag : Cal P w K mg base "_law_bag" 2 ["rows"] (spP ⟨P, w, K⟩ 1 o__law_bag)) : Cal P w K mg base "_law_is_bag" 3 ["value", "width"] (spP ⟨P, w, K⟩ 2 o__law_is_bag) := by
  have S := sc__law_is_bag
  refine Df.okP S rfl fun f cdv A outer s H E B hr => ?_
  refine ⟨_, (dss_cons (ds_if (dw_pt (dw_or (dt_not (dt_val (de_callB cd_isi rfl T.b_isinstance rfl (da_cons (dv 0) (da_cons (de_ty rfl T.b_tuple rfl) da_nil))))) (dw_or1 (dt_cmp (od_ne hr.units 8) (de_lc (own := [("row", 2)]) rfl S.nd (di_val (dv 0)) (blkOk_by (by rfl)) (fun s H C cl fp => (dg_name (i := 2) S.nd rfl (by first | exact .inl rfl | exact .inr rfl))) (fun s H C cl fp => (dts_one (dw_pt (dw_or (dt_not (dt_val (de_callB cd_isi rfl T.b_isinstance rfl (da_cons (dv 2) (da_cons (de_ty rfl T.b_tuple rfl) da_nil))))) (dw_or1 (dt_cmp (od_ne hr.units 8) (de_callB cd_len rfl T.b_len rfl (da_cons (dv 2) da_nil)) (dv 1))))))) (fun s H C cl fp => (dv 2))) (de_lst da_nil))))) (dss_one (ds_ret de_bl)) dss_nil) (dss_cons (ds_for PassesOwn.never rfl (di_val (dv 0)) (dg_name (i := 2) S.nd rfl (by first | exact .inl rfl | exact .inr rfl)) (dss_one (ds_if (dt_cmp (od_ne hr.units 8) (de_lc (own := [("one", 3)]) rfl S.nd (di_val (dv 2)) (blkOk_by (by rfl)) (fun s H C cl fp => (dg_name (i := 3) S.nd rfl (by first | exact .inl rfl | exact .inr rfl))) (fun s H C cl fp => (dts_one (dt_not (dt_val (de_fnP C__law_is_value (hr.mono (by decide)) rfl (da_cons (dv 3) da_nil)))))) (fun s H C cl fp => (dv 3))) (de_lst da_nil)) (dss_one (ds_ret de_bl)) dss_nil))) (dss_one (ds_ret (de_cmp (od_eq hr.units 8) (dv 0) (de_fnP C__law_bag (hr.mono (by decide)) rfl (da_cons (dv 0) da_nil))))))), ?_⟩
  rintro ds R hl ⟨d, n, rfl, hd, h⟩
  simp only [dRet, dRetN, dSeq, dIfS, dSet, dPar, dAug, dFor, dDrop, dDropM, dSetM, dSetF, fLst, fItems, mBm, dNewD, dPutO, dNext, dBreak, dCont, dAndV, dOrV, dNotV, dAnd, dOr, dNot, dB, dIf, dTup, dLst, dOp, dUn, dCallP, dCall, lfP, dCons, dNil, dVar, dC, dChain, dOpO, dCallO, dItems, dEnum, dRange1, dRange2, dLc, dLc2, dNoPart, dPart, dSl, dTru, gtName, gtTup, gtCons, gtNil, dYes, dGet, dGetO, dRevT, dRevL, lcBody, lcOut, lcIn, wipeD, List.map_cons, List.map_nil, List.cons_append, List.nil_append, List.length_cons, List.length_nil, Nat.reduceAdd, Nat.reduceSub, Nat.zero_add, Nat.sub_self, List.replicate_zero, List.replicate_succ, List.getElem?_cons_zero, List.getElem?_cons_succ, List.set_cons_zero, List.set_cons_succ, Option.some.injEq, Dv.Slot.d.injEq, Dv.Slot.own.injEq, Ob.lst.injEq, Ob.dic.injEq, exists_eq_left', exists_eq_left, exists_and_left, List.cons.injEq, and_true, true_and, and_assoc, D.raw.injEq, V.ty.injEq, D.bl.injEq, D.int.injEq, D.str.injEq, D.tup.injEq, D.lst.injEq, Bool.true_eq_false, Bool.false_eq_true, if_true, if_false, ite_true, ite_false, reduceIte, reduceCtorEq, false_or, or_false, itemsD_tup, itemsD_lst, itemsD_dic, exists_const]
  refine ⟨_, isiD_eq (shp_raw hd) (by decide), ?_⟩
  cases d with
  | tup xs =>
    have hd0 := hd
    rw [shp_tup, List.all_eq_true] at hd
    have wid : D → Bool := fun d => match d with
      | .tup ys => decide ((ys.length : Int) = n)
      | _ => false
    refine (if_neg (by show ¬ (false = true); decide)).mpr ⟨xs, rfl, fun hz => ⟨hz, ?_⟩⟩
    refine lc_filt (fun d => !widD n d) (fun d hd' K hk => ?_) ?_
    · have hs := hd d hd'
      simp only [dRet, dRetN, dSeq, dIfS, dSet, dPar, dAug, dFor, dDrop, dDropM, dSetM, dSetF, fLst, fItems, mBm, dNewD, dPutO, dNext, dBreak, dCont, dAndV, dOrV, dNotV, dAnd, dOr, dNot, dB, dIf, dTup, dLst, dOp, dUn, dCallP, dCall, lfP, dCons, dNil, dVar, dC, dChain, dOpO, dCallO, dItems, dEnum, dRange1, dRange2, dLc, dLc2, dNoPart, dPart, dSl, dTru, gtName, gtTup, gtCons, gtNil, dYes, dGet, dGetO, dRevT, dRevL, lcBody, lcOut, lcIn, wipeD, List.map_cons, List.map_nil, List.cons_append, List.nil_append, List.length_cons, List.length_nil, Nat.reduceAdd, Nat.reduceSub, Nat.zero_add, Nat.sub_self, List.replicate_zero, List.replicate_succ, List.getElem?_cons_zero, List.getElem?_cons_succ, List.set_cons_zero, List.set_cons_succ, Option.some.injEq, Dv.Slot.d.injEq, Dv.Slot.own.injEq, Ob.lst.injEq, Ob.dic.injEq, exists_eq_left', exists_eq_left, exists_and_left, List.cons.injEq, and_true, true_and, and_assoc, D.raw.injEq, V.ty.injEq, D.bl.injEq, D.int.injEq, D.str.injEq, D.tup.injEq, D.lst.injEq, Bool.true_eq_false, Bool.false_eq_true, if_true, if_false, ite_true, ite_false, reduceIte, reduceCtorEq, false_or, or_false, itemsD_tup, itemsD_lst, itemsD_dic, exists_const]
      refine ⟨_, isiD_eq (shp_raw hs) (by decide), ?_⟩
      cases d with
      | tup ys =>
        refine (if_neg (by show ¬ (false = true); decide)).mpr ⟨_, rfl, fun _ => ⟨shp_int _ _, shp_int _ _, ?_⟩⟩
        rw [Bg.eq_int]
        rw [widD] at hk
        cases q : decide ((ys.length : Int) = n) with
        | true => rw [q] at hk; exact hk
        | false => rw [q] at hk; exact hk
      | _ => exact (if_pos rfl).mpr hk
    · rw [List.nil_append, eq_nil]
      refine ⟨Nat.zero_le _, ?_, by simp [shp_lst], ?_⟩
      · rw [shp_lst, List.all_eq_true]
        exact fun y hy => hd y (List.mem_filter.mp hy).1
      · have e : (xs.filter fun d => !widD n d).isEmpty = xs.all (widD n) := by
          rw [Bool.eq_iff_iff, List.isEmpty_iff, List.filter_eq_nil_iff, List.all_eq_true]
          simp
        rw [e]
        cases q : xs.all (widD n) with
        | false =>
          refine (if_pos rfl).mpr (h _ ⟨(fun z => nomatch z), fun ⟨rs, e, k, _⟩ => ?_⟩)
          have e : xs = rs.map rowD := by cases e; rfl
          subst e
          rw [← q, List.all_eq_true]
          rintro x hx
          obtain ⟨r, hr', rfl⟩ := List.mem_map.mp hx
          exact wid_row (k r hr')
        | true =>
          rw [List.all_eq_true] at q
          refine (if_neg (by decide)).mpr ⟨xs, rfl, fun hz => ?_⟩
          refine for_list (fun qs ρ _ => ∃ x y, ρ = [.d (.tup xs), .d (.int n), x, y] ∧ ∀ z ∈ qs, isRowD z n = true) ⟨.un, .un, rfl, fun _ z => nomatch z⟩ ?_ ?_
          · rintro qs z rest er ρ s ⟨x, y, rfl, hq⟩ K hK
            have hzm : z ∈ xs := by rw [er]; simp
            have hzs := hd z hzm
            have hzw := q z hzm
            cases z with
            | tup vs =>
              rw [shp_tup, List.all_eq_true] at hzs
              simp only [dRet, dRetN, dSeq, dIfS, dSet, dPar, dAug, dFor, dDrop, dDropM, dSetM, dSetF, fLst, fItems, mBm, dNewD, dPutO, dNext, dBreak, dCont, dAndV, dOrV, dNotV, dAnd, dOr, dNot, dB, dIf, dTup, dLst, dOp, dUn, dCallP, dCall, lfP, dCons, dNil, dVar, dC, dChain, dOpO, dCallO, dItems, dEnum, dRange1, dRange2, dLc, dLc2, dNoPart, dPart, dSl, dTru, gtName, gtTup, gtCons, gtNil, dYes, dGet, dGetO, dRevT, dRevL, lcBody, lcOut, lcIn, wipeD, List.map_cons, List.map_nil, List.cons_append, List.nil_append, List.length_cons, List.length_nil, Nat.reduceAdd, Nat.reduceSub, Nat.zero_add, Nat.sub_self, List.replicate_zero, List.replicate_succ, List.getElem?_cons_zero, List.getElem?_cons_succ, List.set_cons_zero, List.set_cons_succ, Option.some.injEq, Dv.Slot.d.injEq, Dv.Slot.own.injEq, Ob.lst.injEq, Ob.dic.injEq, exists_eq_left', exists_eq_left, exists_and_left, List.cons.injEq, and_true, true_and, and_assoc, D.raw.injEq, V.ty.injEq, D.bl.injEq, D.int.injEq, D.str.injEq, D.tup.injEq, D.lst.injEq, Bool.true_eq_false, Bool.false_eq_true, if_true, if_false, ite_true, ite_false, reduceIte, reduceCtorEq, false_or, or_false, itemsD_tup, itemsD_lst, itemsD_dic, exists_const]
              intro hz3
              refine ⟨hz3, lc_filt (fun d => !isValD d) (fun v hv K2 hk2 => ?_) ?_⟩
              · simp only [dRet, dRetN, dSeq, dIfS, dSet, dPar, dAug, dFor, dDrop, dDropM, dSetM, dSetF, fLst, fItems, mBm, dNewD, dPutO, dNext, dBreak, dCont, dAndV, dOrV, dNotV, dAnd, dOr, dNot, dB, dIf, dTup, dLst, dOp, dUn, dCallP, dCall, lfP, dCons, dNil, dVar, dC, dChain, dOpO, dCallO, dItems, dEnum, dRange1, dRange2, dLc, dLc2, dNoPart, dPart, dSl, dTru, gtName, gtTup, gtCons, gtNil, dYes, dGet, dGetO, dRevT, dRevL, lcBody, lcOut, lcIn, wipeD, List.map_cons, List.map_nil, List.cons_append, List.nil_append, List.length_cons, List.length_nil, Nat.reduceAdd, Nat.reduceSub, Nat.zero_add, Nat.sub_self, List.replicate_zero, List.replicate_succ, List.getElem?_cons_zero, List.getElem?_cons_succ, List.set_cons_zero, List.set_cons_succ, Option.some.injEq, Dv.Slot.d.injEq, Dv.Slot.own.injEq, Ob.lst.injEq, Ob.dic.injEq, exists_eq_left', exists_eq_left, exists_and_left, List.cons.injEq, and_true, true_and, and_assoc, D.raw.injEq, V.ty.injEq, D.bl.injEq, D.int.injEq, D.str.injEq, D.tup.injEq, D.lst.injEq, Bool.true_eq_false, Bool.false_eq_true, if_true, if_false, ite_true, ite_false, reduceIte, reduceCtorEq, false_or, or_false, itemsD_tup, itemsD_lst, itemsD_dic, exists_const]
                refine ⟨v, rfl, shp_le (hzs v hv) (by decide), _, rfl, ?_⟩
                cases qq : isValD v with
                | true => rw [qq] at hk2; exact hk2
                | false => rw [qq] at hk2; exact hk2
              · rw [List.nil_append, eq_nil]
                refine ⟨Nat.zero_le _, ?_, by simp [shp_lst], ?_⟩
                · rw [shp_lst, List.all_eq_true]
                  exact fun y hy => shp_le (hzs y (List.mem_filter.mp hy).1) (by decide)
                · have e2 : (vs.filter fun d => !isValD d).isEmpty = vs.all isValD := by
                    rw [Bool.eq_iff_iff, List.isEmpty_iff, List.filter_eq_nil_iff, List.all_eq_true]
                    simp
                  rw [e2]
                  cases q3 : vs.all isValD with
                  | true =>
                    refine (if_neg (by decide)).mpr (hK _ _ ⟨_, _, rfl, fun u hu => ?_⟩)
                    rcases List.mem_append.mp hu with hu | hu
                    · exact hq u hu
                    · rw [List.mem_singleton] at hu
                      subst hu
                      rw [isRowD, q3, Bool.and_true]
                      exact hzw
                  | false =>
                    refine (if_pos rfl).mpr (h _ ⟨(fun z => nomatch z), fun ⟨rs, e, k, _⟩ => ?_⟩)
                    have e : xs = rs.map rowD := by cases e; rfl
                    rw [e] at hzm
                    obtain ⟨r, hr', e4⟩ := List.mem_map.mp hzm
                    have := k r hr'
                    rw [e4, isRowD, q3, Bool.and_false] at this
                    exact this
            | _ => cases hzw
          · rintro ρ s ⟨x, y, rfl, hq⟩
            obtain ⟨rs, rfl⟩ := rows_of (xs := xs) (n := n) (fun x hx => shp_up (hd x hx)) hq
            simp only [dRet, dRetN, dSeq, dIfS, dSet, dPar, dAug, dFor, dDrop, dDropM, dSetM, dSetF, fLst, fItems, mBm, dNewD, dPutO, dNext, dBreak, dCont, dAndV, dOrV, dNotV, dAnd, dOr, dNot, dB, dIf, dTup, dLst, dOp, dUn, dCallP, dCall, lfP, dCons, dNil, dVar, dC, dChain, dOpO, dCallO, dItems, dEnum, dRange1, dRange2, dLc, dLc2, dNoPart, dPart, dSl, dTru, gtName, gtTup, gtCons, gtNil, dYes, dGet, dGetO, dRevT, dRevL, lcBody, lcOut, lcIn, wipeD, List.map_cons, List.map_nil, List.cons_append, List.nil_append, List.length_cons, List.length_nil, Nat.reduceAdd, Nat.reduceSub, Nat.zero_add, Nat.sub_self, List.replicate_zero, List.replicate_succ, List.getElem?_cons_zero, List.getElem?_cons_succ, List.set_cons_zero, List.set_cons_succ, Option.some.injEq, Dv.Slot.d.injEq, Dv.Slot.own.injEq, Ob.lst.injEq, Ob.dic.injEq, exists_eq_left', exists_eq_left, exists_and_left, List.cons.injEq, and_true, true_and, and_assoc, D.raw.injEq, V.ty.injEq, D.bl.injEq, D.int.injEq, D.str.injEq, D.tup.injEq, D.lst.injEq, Bool.true_eq_false, Bool.false_eq_true, if_true, if_false, ite_true, ite_false, reduceIte, reduceCtorEq, false_or, or_false, itemsD_tup, itemsD_lst, itemsD_dic, exists_const]
            refine ⟨rs, _, rfl, .inl rfl, hd0, shp_bag _ 6, ?_⟩
            have e : eqD (.tup (rs.map rowD)) (bagD (bagR rs)) = decide (rs = bagR rs) := eqD_bag _ _
            rw [e]
            refine h _ ⟨fun z => ⟨rs, rfl, fun r hr' => hq _ (List.mem_map.mpr ⟨r, hr', rfl⟩), (of_decide_eq_true z).symm⟩, fun ⟨ss, e, _, k⟩ => ?_⟩
            cases bagD_inj (rs := rs) (ss := ss) e
            exact decide_eq_true k.symm
  | _ => exact (if_pos rfl).mpr (h _ ⟨(fun z => nomatch z), fun ⟨rs, e, _, _⟩ => nomatch e⟩)

end
end K00

set_option Elab.async false
set_option linter.all false
set_option maxRecDepth 100000
set_option maxHeartbeats 2000000
namespace K00
open PySem L2 Dv Bg

abbrev s__law_draws : Stmt := top 24
theorem sc__law_draws : FnScope ["script", "many", "draws", "mixed", "k", "cell", "rest", "turn"] ["script", "many"] (defScope s__law_draws) := ⟨rfl, rfl, rfl, by decide +kernel, rfl, by decide +kernel, by decide +kernel⟩
abbrev s__law_next : Stmt := top 25
theorem sc__law_next : FnScope ["w", "many"] ["w", "many"] (defScope s__law_next) := ⟨rfl, rfl, rfl, by decide +kernel, rfl, by decide +kernel, by decide +kernel⟩
abbrev s__law_pick : Stmt := top 26
theorem sc__law_pick : FnScope ["w", "rows"] ["w", "rows"] (defScope s__law_pick) := ⟨rfl, rfl, rfl, by decide +kernel, rfl, by decide +kernel, by decide +kernel⟩
abbrev s__law_bent : Stmt := top 32
theorem sc__law_bent : FnScope ["w", "value", "at"] ["w", "value"] (defScope s__law_bent) := ⟨rfl, rfl, rfl, by decide +kernel, rfl, by decide +kernel, by decide +kernel⟩
abbrev s__law_rows : Stmt := top 35
theorem sc__law_rows : FnScope ["w", "width", "k", "j"] ["w", "width"] (defScope s__law_rows) := ⟨rfl, rfl, rfl, by decide +kernel, rfl, by decide +kernel, by decide +kernel⟩
def cutI (xs : List Int) (lo hi : Option Int) : List Int := (xs.drop (HT.sIx xs.length 0 lo)).take (HT.sIx xs.length xs.length hi - HT.sIx xs.length 0 lo)
section
variable {P : Program} {w : World} {K : PySem.W.Frag} {mg : Str → Option Value} {base : Heap}

def o__law_draws : PL := fun ds R => ∃ ns : List Int, ds = [.lst (ns.map .int), .int 500] ∧ ns.length ≤ 63 ∧ ∀ ms : List Int, R (.lst (ms.map .int))
theorem ok__law_draws (T : Bn mg) (Df : Def K mg "_law_draws" s__law_draws ["script", "many"])  : Cal P w K mg base "_law_draws" 1 ["script", "many"] (spP ⟨P, w, K⟩ 2 o__law_draws) := by
  have S := sc__law_draws
  refine Df.okP S rfl fun f cdv A outer s H E B hr => ?_
  refine ⟨_, (dss_cons (ds_setF (i := 2) S.nd rfl (by first | exact .inl rfl | exact .inr rfl) (df_lst da_nil)) (dss_cons (ds_set (i := 3) S.nd rfl (by first | exact .inl rfl | exact .inr rfl) de_int) (dss_cons (ds_for PassesOwn.never rfl (di_range1 rfl T.b_range (da_cons (de_callB cd_len rfl T.b_len rfl (da_cons (dv 0) da_nil)) da_nil)) (dg_name (i := 4) S.nd rfl (by first | exact .inl rfl | exact .inr rfl)) (dss_cons (ds_set (i := 5) S.nd rfl (by first | exact .inl rfl | exact .inr rfl) (de_callB cd_abs rfl T.b_abs rfl (da_cons (de_callTy cd_intI rfl T.b_int rfl (da_cons (de_ix xd_seq (dv 0) (dv 4)) da_nil)) da_nil))) (dss_cons (ds_set (i := 3) S.nd rfl (by first | exact .inl rfl | exact .inr rfl) (de_op od_mod (de_callTy cd_intI rfl T.b_int rfl (da_cons (de_op od_add (de_op od_add (de_op od_mul (dv 3) de_int) (de_op od_mod (dv 5) de_int)) (dv 4)) da_nil)) de_int)) (dss_cons (ds_set (i := 6) S.nd rfl (by first | exact .inl rfl | exact .inr rfl) de_int) (dss_cons (ds_if (dt_cmp (od_ge hr.units) (dv 5) (de_op od_pow de_int de_int)) (dss_one (ds_set (i := 6) S.nd rfl (by first | exact .inl rfl | exact .inr rfl) (dv 5))) (dss_cons (ds_exprM (dm_bm PySem.F.slot_list_append PySem.F.type_list_append ow_append (pv 2) (da_cons (de_op od_mod (de_callTy cd_intI rfl T.b_int rfl (da_cons (dv 5) da_nil)) de_int) da_nil))) (dss_one (ds_exprM (dm_bm PySem.F.slot_list_append PySem.F.type_list_append ow_append (pv 2) (da_cons (de_op od_mod (de_op od_mod (de_callTy cd_intI rfl T.b_int rfl (da_cons (de_op od_add (de_op od_mul (dv 3) de_int) de_int) da_nil)) de_int) de_int) da_nil)))))) (dss_one (ds_for PassesOwn.never rfl (di_range1 rfl T.b_range (da_cons de_int da_nil)) (dg_name (i := 7) S.nd rfl (by first | exact .inl rfl | exact .inr rfl)) (dss_one (ds_if (dt_cmp (od_gt hr.units) (dv 6) de_int) (dss_cons (ds_exprM (dm_bm PySem.F.slot_list_append PySem.F.type_list_append ow_append (pv 2) (da_cons (de_op od_mod (de_callTy cd_intI rfl T.b_int rfl (da_cons (dv 6) da_nil)) de_int) da_nil))) (dss_one (ds_set (i := 6) S.nd rfl (by first | exact .inl rfl | exact .inr rfl) (de_op od_fdiv (dv 6) de_int)))) dss_nil))))))))) (dss_cons (ds_for PassesOwn.never rfl (di_range1 rfl T.b_range (da_cons (dv 1) da_nil)) (dg_name (i := 4) S.nd rfl (by first | exact .inl rfl | exact .inr rfl)) (dss_cons (ds_set (i := 3) S.nd rfl (by first | exact .inl rfl | exact .inr rfl) (de_op od_mod (de_callTy cd_intI rfl T.b_int rfl (da_cons (de_op od_add (de_op od_add (de_op od_mul (dv 3) de_int) (dv 4)) de_int) da_nil)) de_int)) (dss_one (ds_exprM (dm_bm PySem.F.slot_list_append PySem.F.type_list_append ow_append (pv 2) (da_cons (de_op od_mod (de_callTy cd_intI rfl T.b_int rfl (da_cons (dv 3) da_nil)) de_int) da_nil)))))) (dss_freeze 2 (dss_one (ds_ret (de_slice sd_seq (dv 2) do_none (do_some (dv 1)))))))))), ?_⟩
  rintro ds R hl ⟨ns, rfl, hlen, h⟩
  have hzl := sizeLine_eq
  have hmul : ∀ m j : Int, 0 ≤ m → m < 65537 → j.natAbs < 100000 → CMulW m j := fun m j h1 h2 h3 => by
    unfold CMulW
    have := Nat.log2_le_self m.natAbs
    have := Nat.log2_le_self j.natAbs
    omega
  simp only [dRet, dRetN, dSeq, dIfS, dSet, dPar, dAug, dFor, dDrop, dDropM, dSetM, dSetF, fLst, fItems, mBm, dNewD, dPutO, dNext, dBreak, dCont, dAndV, dOrV, dNotV, dAnd, dOr, dNot, dB, dIf, dTup, dLst, dOp, dUn, dCallP, dCall, lfP, dCons, dNil, dVar, dC, dChain, dOpO, dCallO, dItems, dEnum, dRange1, dRange2, dLc, dLc2, dNoPart, dPart, dSl, dTru, gtName, gtTup, gtCons, gtNil, dYes, dGet, dGetO, dRevT, dRevL, lcBody, lcOut, lcIn, wipeD, List.map_cons, List.map_nil, List.cons_append, List.nil_append, List.length_cons, List.length_nil, Nat.reduceAdd, Nat.reduceSub, Nat.zero_add, Nat.sub_self, List.replicate_zero, List.replicate_succ, List.getElem?_cons_zero, List.getElem?_cons_succ, List.set_cons_zero, List.set_cons_succ, Option.some.injEq, Dv.Slot.d.injEq, Dv.Slot.own.injEq, Ob.lst.injEq, Ob.dic.injEq, exists_eq_left', exists_eq_left, exists_and_left, List.cons.injEq, and_true, true_and, and_assoc, D.raw.injEq, V.ty.injEq, D.bl.injEq, D.int.injEq, D.str.injEq, D.tup.injEq, D.lst.injEq, Bool.true_eq_false, Bool.false_eq_true, if_true, if_false, ite_true, ite_false, reduceIte, reduceCtorEq, false_or, or_false, itemsD_tup, itemsD_lst, itemsD_dic, exists_const]
  refine ⟨by omega, ns.length, by simp [lenD], fun _ => ⟨by omega, by omega, ?_⟩⟩
  rw [rangeD_map, show ((ns.length : Nat) : Int).toNat = ns.length from rfl]
  refine for_mapg (pre := []) (fun qs ρ _ => ∃ (ms : List Int) (m : Int) (x4 x5 x6 x7 : Slot), ρ = [.d (.lst (ns.map .int)), .d (.int 500), .own (.lst (ms.map .int)), .d (.int m), x4, x5, x6, x7] ∧ 0 ≤ m ∧ m < 65537 ∧ ms.length ≤ 62 * qs.length) ⟨[], 7, _, _, _, _, rfl, by decide, by decide, by decide⟩ ?_ ?_
  · rintro qs k rest er ρ s ⟨ms, m, x4, x5, x6, x7, rfl, hm1, hm2, hms⟩ K hK
    rw [List.nil_append] at er
    have hk : k < ns.length := by
      have : k ∈ List.range ns.length := by rw [er]; simp
      simpa using this
    have hqs : qs.length < ns.length := by
      have := congrArg List.length er
      simp at this
      omega
    have ea : ixD (.lst (ns.map .int)) (0 + (k : Nat)) = some (.int ns[k]) := by
      rw [Int.zero_add]
      refine (atI_nat ?_ : atI (ns.map D.int) _ = _)
      rw [List.getElem?_map, List.getElem?_eq_getElem hk]
      rfl
    simp only [dRet, dRetN, dSeq, dIfS, dSet, dPar, dAug, dFor, dDrop, dDropM, dSetM, dSetF, fLst, fItems, mBm, dNewD, dPutO, dNext, dBreak, dCont, dAndV, dOrV, dNotV, dAnd, dOr, dNot, dB, dIf, dTup, dLst, dOp, dUn, dCallP, dCall, lfP, dCons, dNil, dVar, dC, dChain, dOpO, dCallO, dItems, dEnum, dRange1, dRange2, dLc, dLc2, dNoPart, dPart, dSl, dTru, gtName, gtTup, gtCons, gtNil, dYes, dGet, dGetO, dRevT, dRevL, lcBody, lcOut, lcIn, wipeD, List.map_cons, List.map_nil, List.cons_append, List.nil_append, List.length_cons, List.length_nil, Nat.reduceAdd, Nat.reduceSub, Nat.zero_add, Nat.sub_self, List.replicate_zero, List.replicate_succ, List.getElem?_cons_zero, List.getElem?_cons_succ, List.set_cons_zero, List.set_cons_succ, Option.some.injEq, Dv.Slot.d.injEq, Dv.Slot.own.injEq, Ob.lst.injEq, Ob.dic.injEq, exists_eq_left', exists_eq_left, exists_and_left, List.cons.injEq, and_true, true_and, and_assoc, D.raw.injEq, V.ty.injEq, D.bl.injEq, D.int.injEq, D.str.injEq, D.tup.injEq, D.lst.injEq, Bool.true_eq_false, Bool.false_eq_true, if_true, if_false, ite_true, ite_false, reduceIte, reduceCtorEq, false_or, or_false, itemsD_tup, itemsD_lst, itemsD_dic, exists_const, intP, addP, cmpP]
    refine ⟨_, ea, ns[k], rfl, hmul _ _ hm1 hm2 (by decide), by decide, by decide, ⟨by decide, by decide, by decide⟩, ?_⟩
    generalize (if ns[k] < 0 then -ns[k] else ns[k]) = cell
    have hm3 : 0 ≤ (m * 48271 + cell % 1000003 + (0 + (k : Nat))) % 65537 := Int.emod_nonneg _ (by decide)
    have hm4 : (m * 48271 + cell % 1000003 + (0 + (k : Nat))) % 65537 < 65537 := Int.emod_lt_of_pos _ (by decide)
    generalize (m * 48271 + cell % 1000003 + (0 + (k : Nat))) % 65537 = m2 at *
    by_cases hc : 10 ^ Int.toNat 18 ≤ cell
    · rw [decide_eq_true hc]
      refine (if_pos rfl).mpr ⟨by decide, by decide, ?_⟩
      refine for_mapg (pre := []) (fun ts ρ _ => ∃ (ms2 : List Int) (r2 : Int) (x7 : Slot), ρ = [.d (.lst (ns.map .int)), .d (.int 500), .own (.lst (ms2.map .int)), .d (.int m2), .d (.int (0 + (k : Nat))), .d (.int cell), .d (.int r2), x7] ∧ ms2.length ≤ 62 * qs.length + 2 + ts.length) ⟨ms, cell, _, rfl, by simp; omega⟩ ?_ ?_
      · rintro ts t0 rest2 er2 ρ s ⟨ms2, r2, x7, rfl, hl2⟩ K2 hK2
        have hts : ts.length < 60 := by
          have := congrArg List.length er2
          simp at this
          omega
        simp only [dRet, dRetN, dSeq, dIfS, dSet, dPar, dAug, dFor, dDrop, dDropM, dSetM, dSetF, fLst, fItems, mBm, dNewD, dPutO, dNext, dBreak, dCont, dAndV, dOrV, dNotV, dAnd, dOr, dNot, dB, dIf, dTup, dLst, dOp, dUn, dCallP, dCall, lfP, dCons, dNil, dVar, dC, dChain, dOpO, dCallO, dItems, dEnum, dRange1, dRange2, dLc, dLc2, dNoPart, dPart, dSl, dTru, gtName, gtTup, gtCons, gtNil, dYes, dGet, dGetO, dRevT, dRevL, lcBody, lcOut, lcIn, wipeD, List.map_cons, List.map_nil, List.cons_append, List.nil_append, List.length_cons, List.length_nil, Nat.reduceAdd, Nat.reduceSub, Nat.zero_add, Nat.sub_self, List.replicate_zero, List.replicate_succ, List.getElem?_cons_zero, List.getElem?_cons_succ, List.set_cons_zero, List.set_cons_succ, Option.some.injEq, Dv.Slot.d.injEq, Dv.Slot.own.injEq, Ob.lst.injEq, Ob.dic.injEq, exists_eq_left', exists_eq_left, exists_and_left, List.cons.injEq, and_true, true_and, and_assoc, D.raw.injEq, V.ty.injEq, D.bl.injEq, D.int.injEq, D.str.injEq, D.tup.injEq, D.lst.injEq, Bool.true_eq_false, Bool.false_eq_true, if_true, if_false, ite_true, ite_false, reduceIte, reduceCtorEq, false_or, or_false, itemsD_tup, itemsD_lst, itemsD_dic, exists_const, intP, addP, cmpP]
        by_cases hr2 : 0 < r2
        · rw [decide_eq_true hr2]
          refine (if_pos rfl).mpr ⟨by decide, by simp; omega, by unfold CDivW; decide, hK2 _ _ ⟨ms2 ++ [r2 % 997], r2 / 997, _, by rw [List.map_append]; rfl, by simp; omega⟩⟩
        · rw [decide_eq_false hr2]
          exact (if_neg Bool.false_ne_true).mpr (hK2 _ _ ⟨ms2, r2, _, rfl, by simp; omega⟩)
      · rintro ρ s ⟨ms2, r2, x7, rfl, hl2⟩
        refine hK _ _ ⟨ms2, m2, _, _, _, _, rfl, hm3, hm4, ?_⟩
        simp at hl2 ⊢
        omega
    · rw [decide_eq_false hc]
      refine (if_neg Bool.false_ne_true).mpr ⟨by decide, by simp; omega, hmul _ _ hm3 hm4 (by decide), by decide, by decide, by simp; omega, by decide, by decide, ?_⟩
      refine for_mapg (pre := []) (fun ts ρ _ => ∃ (ms2 : List Int) (r2 : Int) (x7 : Slot), ρ = [.d (.lst (ns.map .int)), .d (.int 500), .own (.lst (ms2.map .int)), .d (.int m2), .d (.int (0 + (k : Nat))), .d (.int cell), .d (.int r2), x7] ∧ ms2.length ≤ 62 * qs.length + 2 + ts.length) ⟨ms ++ [cell % 997] ++ [(m2 * 69621 + 5) % 65521 % 997], 0, _, by rw [List.map_append, List.map_append]; rfl, by simp; omega⟩ ?_ ?_
      · rintro ts t0 rest2 er2 ρ s ⟨ms2, r2, x7, rfl, hl2⟩ K2 hK2
        have hts : ts.length < 60 := by
          have := congrArg List.length er2
          simp at this
          omega
        simp only [dRet, dRetN, dSeq, dIfS, dSet, dPar, dAug, dFor, dDrop, dDropM, dSetM, dSetF, fLst, fItems, mBm, dNewD, dPutO, dNext, dBreak, dCont, dAndV, dOrV, dNotV, dAnd, dOr, dNot, dB, dIf, dTup, dLst, dOp, dUn, dCallP, dCall, lfP, dCons, dNil, dVar, dC, dChain, dOpO, dCallO, dItems, dEnum, dRange1, dRange2, dLc, dLc2, dNoPart, dPart, dSl, dTru, gtName, gtTup, gtCons, gtNil, dYes, dGet, dGetO, dRevT, dRevL, lcBody, lcOut, lcIn, wipeD, List.map_cons, List.map_nil, List.cons_append, List.nil_append, List.length_cons, List.length_nil, Nat.reduceAdd, Nat.reduceSub, Nat.zero_add, Nat.sub_self, List.replicate_zero, List.replicate_succ, List.getElem?_cons_zero, List.getElem?_cons_succ, List.set_cons_zero, List.set_cons_succ, Option.some.injEq, Dv.Slot.d.injEq, Dv.Slot.own.injEq, Ob.lst.injEq, Ob.dic.injEq, exists_eq_left', exists_eq_left, exists_and_left, List.cons.injEq, and_true, true_and, and_assoc, D.raw.injEq, V.ty.injEq, D.bl.injEq, D.int.injEq, D.str.injEq, D.tup.injEq, D.lst.injEq, Bool.true_eq_false, Bool.false_eq_true, if_true, if_false, ite_true, ite_false, reduceIte, reduceCtorEq, false_or, or_false, itemsD_tup, itemsD_lst, itemsD_dic, exists_const, intP, addP, cmpP]
        by_cases hr2 : 0 < r2
        · rw [decide_eq_true hr2]
          refine (if_pos rfl).mpr ⟨by decide, by simp; omega, by unfold CDivW; decide, hK2 _ _ ⟨ms2 ++ [r2 % 997], r2 / 997, _, by rw [List.map_append]; rfl, by simp; omega⟩⟩
        · rw [decide_eq_false hr2]
          exact (if_neg Bool.false_ne_true).mpr (hK2 _ _ ⟨ms2, r2, _, rfl, by simp; omega⟩)
      · rintro ρ s ⟨ms2, r2, x7, rfl, hl2⟩
        refine hK _ _ ⟨ms2, m2, _, _, _, _, rfl, hm3, hm4, ?_⟩
        simp at hl2 ⊢
        omega
  · rintro ρ s ⟨ms, m, x4, x5, x6, x7, rfl, hm1, hm2, hms⟩
    rw [List.nil_append, List.length_range] at hms
    simp only [dRet, dRetN, dSeq, dIfS, dSet, dPar, dAug, dFor, dDrop, dDropM, dSetM, dSetF, fLst, fItems, mBm, dNewD, dPutO, dNext, dBreak, dCont, dAndV, dOrV, dNotV, dAnd, dOr, dNot, dB, dIf, dTup, dLst, dOp, dUn, dCallP, dCall, lfP, dCons, dNil, dVar, dC, dChain, dOpO, dCallO, dItems, dEnum, dRange1, dRange2, dLc, dLc2, dNoPart, dPart, dSl, dTru, gtName, gtTup, gtCons, gtNil, dYes, dGet, dGetO, dRevT, dRevL, lcBody, lcOut, lcIn, wipeD, List.map_cons, List.map_nil, List.cons_append, List.nil_append, List.length_cons, List.length_nil, Nat.reduceAdd, Nat.reduceSub, Nat.zero_add, Nat.sub_self, List.replicate_zero, List.replicate_succ, List.getElem?_cons_zero, List.getElem?_cons_succ, List.set_cons_zero, List.set_cons_succ, Option.some.injEq, Dv.Slot.d.injEq, Dv.Slot.own.injEq, Ob.lst.injEq, Ob.dic.injEq, exists_eq_left', exists_eq_left, exists_and_left, List.cons.injEq, and_true, true_and, and_assoc, D.raw.injEq, V.ty.injEq, D.bl.injEq, D.int.injEq, D.str.injEq, D.tup.injEq, D.lst.injEq, Bool.true_eq_false, Bool.false_eq_true, if_true, if_false, ite_true, ite_false, reduceIte, reduceCtorEq, false_or, or_false, itemsD_tup, itemsD_lst, itemsD_dic, exists_const, intP, addP, cmpP]
    refine ⟨by decide, by decide, ?_⟩
    rw [rangeD_map]
    refine for_mapg (pre := []) (fun qs ρ _ => ∃ (ms : List Int) (m : Int) (x4 x5 x6 x7 : Slot), ρ = [.d (.lst (ns.map .int)), .d (.int 500), .own (.lst (ms.map .int)), .d (.int m), x4, x5, x6, x7] ∧ 0 ≤ m ∧ m < 65537 ∧ ms.length ≤ 4000 + qs.length) ⟨ms, m, _, _, _, _, rfl, hm1, hm2, by simp; omega⟩ ?_ ?_
    · rintro qs k rest er ρ s ⟨ms, m, x4, x5, x6, x7, rfl, hm1, hm2, hms⟩ K hK
      have hqs : qs.length < 500 := by
        have := congrArg List.length er
        simp at this
        omega
      simp only [dRet, dRetN, dSeq, dIfS, dSet, dPar, dAug, dFor, dDrop, dDropM, dSetM, dSetF, fLst, fItems, mBm, dNewD, dPutO, dNext, dBreak, dCont, dAndV, dOrV, dNotV, dAnd, dOr, dNot, dB, dIf, dTup, dLst, dOp, dUn, dCallP, dCall, lfP, dCons, dNil, dVar, dC, dChain, dOpO, dCallO, dItems, dEnum, dRange1, dRange2, dLc, dLc2, dNoPart, dPart, dSl, dTru, gtName, gtTup, gtCons, gtNil, dYes, dGet, dGetO, dRevT, dRevL, lcBody, lcOut, lcIn, wipeD, List.map_cons, List.map_nil, List.cons_append, List.nil_append, List.length_cons, List.length_nil, Nat.reduceAdd, Nat.reduceSub, Nat.zero_add, Nat.sub_self, List.replicate_zero, List.replicate_succ, List.getElem?_cons_zero, List.getElem?_cons_succ, List.set_cons_zero, List.set_cons_succ, Option.some.injEq, Dv.Slot.d.injEq, Dv.Slot.own.injEq, Ob.lst.injEq, Ob.dic.injEq, exists_eq_left', exists_eq_left, exists_and_left, List.cons.injEq, and_true, true_and, and_assoc, D.raw.injEq, V.ty.injEq, D.bl.injEq, D.int.injEq, D.str.injEq, D.tup.injEq, D.lst.injEq, Bool.true_eq_false, Bool.false_eq_true, if_true, if_false, ite_true, ite_false, reduceIte, reduceCtorEq, false_or, or_false, itemsD_tup, itemsD_lst, itemsD_dic, exists_const, intP, addP, cmpP]
      refine ⟨hmul _ _ hm1 hm2 (by decide), by decide, by decide, by simp; omega, hK _ _ ⟨ms ++ [_], _, _, _, _, _, by rw [List.map_append]; rfl, Int.emod_nonneg _ (by decide), Int.emod_lt_of_pos _ (by decide), by simp; omega⟩⟩
    · rintro ρ s ⟨ms, m, x4, x5, x6, x7, rfl, hm1, hm2, hms⟩
      refine .inl ⟨_, rfl, ?_⟩
      refine ⟨_, rfl, _, rfl, 500, rfl, _, rfl, ?_⟩
      have e : cutD (ms.map D.int) none (some 500) = (cutI ms none (some 500)).map D.int := by
        unfold cutD cutI
        rw [← List.map_drop, ← List.map_take, List.length_map]
      show R (.lst (cutD (ms.map D.int) none (some 500)))
      rw [e]
      exact h _

theorem ok__law_next (T : Bn mg) (Df : Def K mg "_law_next" s__law_next ["w", "many"]) : Cal P w K mg base "_law_next" 1 ["w", "many"] (spD ⟨P, w, K⟩ (Wd K) 2 o_next) := by
  have S := sc__law_next
  refine Df.cal fun f fd F => F.ok S (fun vs H Q E h => ?_) (fun cdv A outer s H vs Q E hr h => ?_)
  · obtain ⟨Hs, s, ds, R, _, _, ra, hl, _⟩ := h
    rw [ra.length, hl]
    rfl
  · obtain ⟨Hs, s0, ds, R, hrel, hsub, ra, hl, ⟨p, n, rfl, rfl, hn, hR⟩, k⟩ := h
    have hu : (cxOf CX0 P w K mg base ["w", "many"] "_law_next" (defScope s__law_next) f cdv A outer s H E).nox.A.units + 1 < cLine := by
      have := hr.un
      show (A.deeper _).units + 1 < cLine
      omega
    refine ⟨_, pss_cons (ps_daug hu (pv 0) pe_str pe_int in_add (by intros; rfl))
      (pss_cons (ps_if (pt_cmpR op_gt (pe_dget hu (pv 0) pe_str (fun _ _ => rfl)) (pe_callB call_len rfl T.b_len rfl (pa_cons (pe_dget hu (pv 0) pe_str (fun _ _ => rfl)) pa_nil)) (nomark _)) (pss_one (ps_ret pe_int)) pss_nil)
      (pss_one (ps_ret (pe_op op_mod (pe_callTy call_int1 rfl T.b_int rfl (pa_cons (pe_ix ix_seq (pe_dget hu (pv 0) pe_str (fun _ _ => rfl)) (pe_op op_sub (pe_dget hu (pv 0) pe_str (fun _ _ => rfl)) pe_int) (fun _ _ => rfl)) pa_nil)) (pv 1))))), ?_⟩
    have ev : vs = [.ref p, .int n] := by
      cases ra with
      | cons r1 ra =>
        cases ra with
        | cons r2 ra =>
          cases ra
          cases r1
          cases r2
          rfl
    subst ev
    obtain ⟨hp0, L, i, ns, hp, hL, hi⟩ := hrel p rfl
    have gp : Go (Wd K) (some p) Hs H (some p) Hs (upd H p (.dK (wKvs L (i + 1)))) := wd_step (c := ⟨P, w, K⟩) hrel hsub hp hL hi
    have d1 : DGet H p (.str "at") (some (.int i)) := by
      have := DGet.k (k := kAt) hp
      rwa [w_at] at this
    have d2 : DPut H p (.str "at") (.int (i + 1)) (upd H p (.dK (wKvs L (i + 1)))) := by
      have := DPut.k (k := kAt) (v := .int (i + 1)) hp (show (2 : Nat) < sizeLine by decide)
      rwa [w_put] at this
    have d3 : DGet (upd H p (.dK (wKvs L (i + 1)))) p (.str "at") (some (.int (i + 1))) := by
      have := DGet.k (k := kAt) (upd_same (H := H) (a := p) (o := .dK (wKvs L (i + 1))))
      rwa [w_at] at this
    have d4 : DGet (upd H p (.dK (wKvs L (i + 1)))) p (.str "draws") (some (.ref L)) := by
      have := DGet.k (k := kDraws) (upd_same (H := H) (a := p) (o := .dK (wKvs L (i + 1))))
      rwa [w_draws] at this
    have hL1 : SqL K (upd H p (.dK (wKvs L (i + 1)))) L (ns.map V.int) := gp.sub.seq hL
    refine ⟨.ref p, rfl, p, .int i, rfl, d1, i, 1, rfl, rfl, _, d2, ?_⟩
    refine ⟨.ref p, rfl, p, .int (i + 1), rfl, d3, .ref p, rfl, p, .ref L, rfl, d4, .ref L, ns.length, rfl, .inl ⟨ns.map V.int, hL1, by simp⟩, i + 1, ns.length, rfl, rfl, _, rfl, ?_⟩
    by_cases hc : (ns.length : Int) < i + 1
    · rw [decide_eq_true hc]
      exact k _ _ _ _ _ (hR 0 (by decide) hn) gp (.int 0)
    · rw [decide_eq_false hc]
      have hj : i.toNat < ns.length := by omega
      have ei : i + 1 - 1 = ((i.toNat : Nat) : Int) := by omega
      refine ⟨.ref p, rfl, p, .ref L, rfl, d4, .ref p, rfl, p, .int (i + 1), rfl, d3, i + 1, 1, rfl, rfl, ?_⟩
      refine .inl ⟨L, ns.map V.int, _, .int ns[i.toNat], rfl, rfl, hL1, ?_, ?_⟩
      · rw [ei]
        refine L2.atI_nat ?_
        rw [List.getElem?_map, List.getElem?_eq_getElem hj]
        rfl
      · refine .inl ⟨ns[i.toNat], rfl, .int n, rfl, ns[i.toNat], n, rfl, rfl, hn, ?_⟩
        exact k _ _ _ _ _ (hR _ (Int.emod_nonneg _ (by omega)) (Int.emod_lt_of_pos _ hn)) gp (.int _)

theorem ok__law_pick (T : Bn mg) (Df : Def K mg "_law_pick" s__law_pick ["w", "rows"])  (C__law_next : Cal P w K mg base "_law_next" 1 ["w", "many"] (spD ⟨P, w, K⟩ (Wd K) 2 o_next)) : Cal P w K mg base "_law_pick" 2 ["w", "rows"] (spD ⟨P, w, K⟩ (Wd K) 2 o_pick) := by
  have S := sc__law_pick
  refine Df.okW S rfl fun f cdv A outer s H E B hr => ?_
  refine ⟨_, (dss_one (ds_ret (de_ix xd_seq (dv 1) (de_fn C__law_next (hr.mono (by decide)) rfl (da_cons (dv 0) (da_cons (de_callB cd_len rfl T.b_len rfl (da_cons (dv 1) da_nil)) da_nil)))))), ?_⟩
  rintro ds s R hl ⟨p, xs, rfl, rfl, hne, h⟩
  simp only [dRet, dRetN, dSeq, dIfS, dSet, dPar, dAug, dFor, dDrop, dDropM, dSetM, dSetF, fLst, fItems, mBm, dNewD, dPutO, dNext, dBreak, dCont, dAndV, dOrV, dNotV, dAnd, dOr, dNot, dB, dIf, dTup, dLst, dOp, dUn, dCallP, dCall, lfP, dCons, dNil, dVar, dC, dChain, dOpO, dCallO, dItems, dEnum, dRange1, dRange2, dLc, dLc2, dNoPart, dPart, dSl, dTru, gtName, gtTup, gtCons, gtNil, dYes, dGet, dGetO, dRevT, dRevL, lcBody, lcOut, lcIn, wipeD, List.map_cons, List.map_nil, List.cons_append, List.nil_append, List.length_cons, List.length_nil, Nat.reduceAdd, Nat.reduceSub, Nat.zero_add, Nat.sub_self, List.replicate_zero, List.replicate_succ, List.getElem?_cons_zero, List.getElem?_cons_succ, List.set_cons_zero, List.set_cons_succ, Option.some.injEq, Dv.Slot.d.injEq, Dv.Slot.own.injEq, Ob.lst.injEq, Ob.dic.injEq, exists_eq_left', exists_eq_left, exists_and_left, List.cons.injEq, and_true, true_and, and_assoc, D.raw.injEq, V.ty.injEq, D.bl.injEq, D.int.injEq, D.str.injEq, D.tup.injEq, D.lst.injEq, Bool.true_eq_false, Bool.false_eq_true, if_true, if_false, ite_true, ite_false, reduceIte, reduceCtorEq, false_or, or_false, itemsD_tup, itemsD_lst, itemsD_dic, exists_const]
  refine ⟨xs.length, rfl, fun hz => ⟨p, _, rfl, rfl, ?_, fun r h0 h1 => ?_⟩⟩
  · cases xs with
    | nil => exact absurd rfl hne
    | cons x xs => simp
  · obtain ⟨j, rfl⟩ : ∃ j : Nat, r = j := ⟨r.toNat, by omega⟩
    have hj : j < xs.length := by omega
    exact ⟨_, rfl, xs[j], (L2.atI_nat (List.getElem?_eq_getElem hj) : atI xs _ = _), h _ (List.getElem_mem hj)⟩

def o__law_rows : OkA := fun ds s R => ∃ (p : Addr) (n : Int), ds = [.raw (.ref p), .int n] ∧ s = some p ∧ 0 ≤ n ∧ n ≤ 2 ∧ ∀ rs : List Row, rs.length ≤ 5 → (∀ r ∈ rs, (r.length : Int) = n ∧ ∀ v ∈ r, v ∈ pickV) → R (.lst (rs.map rowD)) (some p)
theorem ok__law_rows (T : Bn mg) (Df : Def K mg "_law_rows" s__law_rows ["w", "width"])  (C__law_next : Cal P w K mg base "_law_next" 1 ["w", "many"] (spD ⟨P, w, K⟩ (Wd K) 2 o_next)) (C__law_pick : Cal P w K mg base "_law_pick" 2 ["w", "rows"] (spD ⟨P, w, K⟩ (Wd K) 2 o_pick)) : Cal P w K mg base "_law_rows" 3 ["w", "width"] (spD ⟨P, w, K⟩ (Wd K) 2 o__law_rows) := by
  have S := sc__law_rows
  refine Df.okW S rfl fun f cdv A outer s H E B hr => ?_
  refine ⟨_, (dss_one (ds_ret (de_lc (own := [("j", 3)]) rfl S.nd (di_range1 rfl T.b_range (da_cons (de_fn C__law_next (hr.mono (by decide)) rfl (da_cons (dv 0) (da_cons de_int da_nil))) da_nil)) (blkOk_by (by rfl)) (fun s H C cl fp => (dg_name (i := 3) S.nd rfl (by first | exact .inl rfl | exact .inr rfl))) (fun s H C cl fp => dts_nil) (fun s H C cl fp => (de_callTy cd_tuple rfl T.b_tuple rfl (da_cons (de_lc (own := [("k", 2)]) rfl S.nd (di_range1 rfl T.b_range (da_cons (dv 1) da_nil)) (blkOk_by (by rfl)) (fun s H C cl fp => (dg_name (i := 2) S.nd rfl (by first | exact .inl rfl | exact .inr rfl))) (fun s H C cl fp => dts_nil) (fun s H C cl fp => (de_fn C__law_pick (hr.mono (by decide)) rfl (da_cons (dv 0) (da_cons (de_lst (da_cons de_non (da_cons de_int (da_cons (de_un ud_neg de_int) (da_cons de_int (da_cons de_str (da_cons de_str (da_cons de_str (da_cons de_str da_nil))))))))) da_nil))))) da_nil)))))), ?_⟩
  rintro ds s R hl ⟨p, n, rfl, rfl, hn0, hn2, h⟩
  simp only [dRet, dRetN, dSeq, dIfS, dSet, dPar, dAug, dFor, dDrop, dDropM, dSetM, dSetF, fLst, fItems, mBm, dNewD, dPutO, dNext, dBreak, dCont, dAndV, dOrV, dNotV, dAnd, dOr, dNot, dB, dIf, dTup, dLst, dOp, dUn, dCallP, dCall, lfP, dCons, dNil, dVar, dC, dChain, dOpO, dCallO, dItems, dEnum, dRange1, dRange2, dLc, dLc2, dNoPart, dPart, dSl, dTru, gtName, gtTup, gtCons, gtNil, dYes, dGet, dGetO, dRevT, dRevL, lcBody, lcOut, lcIn, wipeD, List.map_cons, List.map_nil, List.cons_append, List.nil_append, List.length_cons, List.length_nil, Nat.reduceAdd, Nat.reduceSub, Nat.zero_add, Nat.sub_self, List.replicate_zero, List.replicate_succ, List.getElem?_cons_zero, List.getElem?_cons_succ, List.set_cons_zero, List.set_cons_succ, Option.some.injEq, Dv.Slot.d.injEq, Dv.Slot.own.injEq, Ob.lst.injEq, Ob.dic.injEq, exists_eq_left', exists_eq_left, exists_and_left, List.cons.injEq, and_true, true_and, and_assoc, D.raw.injEq, V.ty.injEq, D.bl.injEq, D.int.injEq, D.str.injEq, D.tup.injEq, D.lst.injEq, Bool.true_eq_false, Bool.false_eq_true, if_true, if_false, ite_true, ite_false, reduceIte, reduceCtorEq, false_or, or_false, itemsD_tup, itemsD_lst, itemsD_dic, exists_const]
  refine ⟨p, 6, rfl, rfl, by decide, fun j hj0 hj1 => ⟨j, rfl, by omega, by omega, ?_, ?_⟩⟩
  · have := sizeLine_eq
    simp [rangeD]
    omega
  rw [rangeD_map]
  refine lc_any rowD (fun r => (r.length : Int) = n ∧ ∀ v ∈ r, v ∈ pickV) (fun x hx K hk => ?_) (fun ys hyl hy => ?_)
  · simp only [dRet, dRetN, dSeq, dIfS, dSet, dPar, dAug, dFor, dDrop, dDropM, dSetM, dSetF, fLst, fItems, mBm, dNewD, dPutO, dNext, dBreak, dCont, dAndV, dOrV, dNotV, dAnd, dOr, dNot, dB, dIf, dTup, dLst, dOp, dUn, dCallP, dCall, lfP, dCons, dNil, dVar, dC, dChain, dOpO, dCallO, dItems, dEnum, dRange1, dRange2, dLc, dLc2, dNoPart, dPart, dSl, dTru, gtName, gtTup, gtCons, gtNil, dYes, dGet, dGetO, dRevT, dRevL, lcBody, lcOut, lcIn, wipeD, List.map_cons, List.map_nil, List.cons_append, List.nil_append, List.length_cons, List.length_nil, Nat.reduceAdd, Nat.reduceSub, Nat.zero_add, Nat.sub_self, List.replicate_zero, List.replicate_succ, List.getElem?_cons_zero, List.getElem?_cons_succ, List.set_cons_zero, List.set_cons_succ, Option.some.injEq, Dv.Slot.d.injEq, Dv.Slot.own.injEq, Ob.lst.injEq, Ob.dic.injEq, exists_eq_left', exists_eq_left, exists_and_left, List.cons.injEq, and_true, true_and, and_assoc, D.raw.injEq, V.ty.injEq, D.bl.injEq, D.int.injEq, D.str.injEq, D.tup.injEq, D.lst.injEq, Bool.true_eq_false, Bool.false_eq_true, if_true, if_false, ite_true, ite_false, reduceIte, reduceCtorEq, false_or, or_false, itemsD_tup, itemsD_lst, itemsD_dic, exists_const]
    refine ⟨by omega, by omega, ?_, ?_⟩
    · have := sizeLine_eq
      simp [rangeD]
      omega
    rw [rangeD_map]
    refine lc_any Vl.d (fun v => v ∈ pickV) (fun y hy K2 hk2 => ?_) (fun vs hvl hv => ?_)
    · simp only [dRet, dRetN, dSeq, dIfS, dSet, dPar, dAug, dFor, dDrop, dDropM, dSetM, dSetF, fLst, fItems, mBm, dNewD, dPutO, dNext, dBreak, dCont, dAndV, dOrV, dNotV, dAnd, dOr, dNot, dB, dIf, dTup, dLst, dOp, dUn, dCallP, dCall, lfP, dCons, dNil, dVar, dC, dChain, dOpO, dCallO, dItems, dEnum, dRange1, dRange2, dLc, dLc2, dNoPart, dPart, dSl, dTru, gtName, gtTup, gtCons, gtNil, dYes, dGet, dGetO, dRevT, dRevL, lcBody, lcOut, lcIn, wipeD, List.map_cons, List.map_nil, List.cons_append, List.nil_append, List.length_cons, List.length_nil, Nat.reduceAdd, Nat.reduceSub, Nat.zero_add, Nat.sub_self, List.replicate_zero, List.replicate_succ, List.getElem?_cons_zero, List.getElem?_cons_succ, List.set_cons_zero, List.set_cons_succ, Option.some.injEq, Dv.Slot.d.injEq, Dv.Slot.own.injEq, Ob.lst.injEq, Ob.dic.injEq, exists_eq_left', exists_eq_left, exists_and_left, List.cons.injEq, and_true, true_and, and_assoc, D.raw.injEq, V.ty.injEq, D.bl.injEq, D.int.injEq, D.str.injEq, D.tup.injEq, D.lst.injEq, Bool.true_eq_false, Bool.false_eq_true, if_true, if_false, ite_true, ite_false, reduceIte, reduceCtorEq, false_or, or_false, itemsD_tup, itemsD_lst, itemsD_dic, exists_const]
      refine ⟨by decide, p, _, rfl, rfl, (fun z => nomatch z), fun x hx => ?_⟩
      have e : ∀ x ∈ ([D.non, .int 0, .int (-2), .int 7, .str "", .str "a", .str "ab", .str "b"] : List D), ∃ v ∈ pickV, x = v.d := by
        intro x hx
        have hx : x ∈ pickV.map Vl.d := hx
        obtain ⟨v, hv, rfl⟩ := List.mem_map.mp hx
        exact ⟨v, hv, rfl⟩
      obtain ⟨v, hv, rfl⟩ := e x hx
      exact hk2 v hv
    · refine hk vs ⟨?_, hv⟩
      rw [hvl, List.length_range]
      omega
  · refine h ys ?_ hy
    rw [hyl, List.length_range]
    omega

def o_bentN (n : Nat) : OkA := fun ds s R => ∃ (p : Addr) (d : D), ds = [.raw (.ref p), d] ∧ s = some p ∧ bnOk n d = true ∧ ∀ d', shp n d' = true → R d' (some p)
theorem ok__law_bent_up (T : Bn mg) (Df : Def K mg "_law_bent" s__law_bent ["w", "value"]) (C__law_next : Cal P w K mg base "_law_next" 1 ["w", "many"] (spD ⟨P, w, K⟩ (Wd K) 2 o_next)) (C__law_pick : Cal P w K mg base "_law_pick" 2 ["w", "rows"] (spD ⟨P, w, K⟩ (Wd K) 2 o_pick)) (n k : Nat) (hn : n ≤ 7) (hk : 2 ≤ k)
    (C_bent : Cal P w K mg base "_law_bent" k ["w", "value"] (spD ⟨P, w, K⟩ (Wd K) 2 (o_bentN n))) : Cal P w K mg base "_law_bent" (k + 1) ["w", "value"] (spD ⟨P, w, K⟩ (Wd K) 2 (o_bentN (n + 1))) := by
  have S := sc__law_bent
  refine Df.okW S rfl fun f cdv A outer s H E B hr => ?_
  refine ⟨_, (dss_cons (ds_if (dw_pt (dw_and (dt_val (de_callB cd_isi rfl T.b_isinstance rfl (da_cons (dv 1) (da_cons (de_ty rfl T.b_tuple rfl) da_nil)))) (dw_and (dt_cmp (od_ne hr.units 8) (dv 1) (de_tup da_nil)) (dw_and1 (dt_cmp (od_gt hr.units) (de_fn C__law_next (hr.mono (by omega)) rfl (da_cons (dv 0) (da_cons de_int da_nil))) de_int))))) (dss_cons (ds_set (i := 2) S.nd rfl (by first | exact .inl rfl | exact .inr rfl) (de_fn C__law_next (hr.mono (by omega)) rfl (da_cons (dv 0) (da_cons (de_callB cd_len rfl T.b_len rfl (da_cons (dv 1) da_nil)) da_nil)))) (dss_one (ds_ret (de_op od_add (de_op od_add (de_slice sd_seq (dv 1) do_none (do_some (dv 2))) (de_tup (da_cons (de_fn C_bent hr rfl (da_cons (dv 0) (da_cons (de_ix xd_seq (dv 1) (dv 2)) da_nil))) da_nil))) (de_slice sd_seq (dv 1) (do_some (de_op od_add (dv 2) de_int)) do_none))))) dss_nil) (dss_cons (ds_if (dt_val (de_callB cd_isi rfl T.b_isinstance rfl (da_cons (dv 1) (da_cons (de_ty rfl T.b_tuple rfl) da_nil)))) (dss_cons (ds_set (i := 2) S.nd rfl (by first | exact .inl rfl | exact .inr rfl) (de_fn C__law_next (hr.mono (by omega)) rfl (da_cons (dv 0) (da_cons (de_op od_add (de_callB cd_len rfl T.b_len rfl (da_cons (dv 1) da_nil)) de_int) da_nil)))) (dss_one (ds_ret (de_fn C__law_pick (hr.mono hk) rfl (da_cons (dv 0) (da_cons (de_lst (da_cons (de_op od_add (de_slice sd_seq (dv 1) do_none (do_some (dv 2))) (de_slice sd_seq (dv 1) (do_some (de_op od_add (dv 2) de_int)) do_none)) (da_cons (de_op od_add (dv 1) (de_slice sd_seq (dv 1) (do_some (de_un ud_neg de_int)) do_none)) (da_cons (de_revT (dv 1)) (da_cons de_non (da_cons (de_tup da_nil) (da_cons (de_callTy cd_list rfl T.b_list rfl (da_cons (dv 1) da_nil)) da_nil))))))) da_nil)))))) dss_nil) (dss_cons (ds_if (dt_val (de_callB cd_isi rfl T.b_isinstance rfl (da_cons (dv 1) (da_cons (de_ty rfl T.b_str rfl) da_nil)))) (dss_one (ds_ret (de_fn C__law_pick (hr.mono hk) rfl (da_cons (dv 0) (da_cons (de_lst (da_cons de_str (da_cons de_str (da_cons de_str (da_cons de_str (da_cons de_non (da_cons de_int (da_cons de_str (da_cons de_str da_nil))))))))) da_nil))))) dss_nil) (dss_one (ds_ret (de_if (dt_val (de_callB cd_isi rfl T.b_isinstance rfl (da_cons (dv 1) (da_cons (de_ty rfl T.b_int rfl) da_nil)))) (de_fn C__law_pick (hr.mono hk) rfl (da_cons (dv 0) (da_cons (de_lst (da_cons (de_op od_add (dv 1) de_int) (da_cons (de_op od_sub (dv 1) de_int) (da_cons de_int (da_cons de_int (da_cons de_bl (da_cons (de_op od_add (dv 1) de_int) (da_cons de_non da_nil)))))))) da_nil))) de_int)))))), ?_⟩
  rintro ds s R hl ⟨p, d, rfl, rfl, hd, h⟩
  simp only [dRet, dRetN, dSeq, dIfS, dSet, dPar, dAug, dFor, dDrop, dDropM, dSetM, dSetF, fLst, fItems, mBm, dNewD, dPutO, dNext, dBreak, dCont, dAndV, dOrV, dNotV, dAnd, dOr, dNot, dB, dIf, dTup, dLst, dOp, dUn, dCallP, dCall, lfP, dCons, dNil, dVar, dC, dChain, dOpO, dCallO, dItems, dEnum, dRange1, dRange2, dLc, dLc2, dNoPart, dPart, dSl, dTru, gtName, gtTup, gtCons, gtNil, dYes, dGet, dGetO, dRevT, dRevL, lcBody, lcOut, lcIn, wipeD, List.map_cons, List.map_nil, List.cons_append, List.nil_append, List.length_cons, List.length_nil, Nat.reduceAdd, Nat.reduceSub, Nat.zero_add, Nat.sub_self, List.replicate_zero, List.replicate_succ, List.getElem?_cons_zero, List.getElem?_cons_succ, List.set_cons_zero, List.set_cons_succ, Option.some.injEq, Dv.Slot.d.injEq, Dv.Slot.own.injEq, Ob.lst.injEq, Ob.dic.injEq, exists_eq_left', exists_eq_left, exists_and_left, List.cons.injEq, and_true, true_and, and_assoc, D.raw.injEq, V.ty.injEq, D.bl.injEq, D.int.injEq, D.str.injEq, D.tup.injEq, D.lst.injEq, Bool.true_eq_false, Bool.false_eq_true, if_true, if_false, ite_true, ite_false, reduceIte, reduceCtorEq, false_or, or_false, itemsD_tup, itemsD_lst, itemsD_dic, exists_const]
  have h8 : shp 8 d = true := shp_le (bnOk_shp hd) (by omega)
  have ei : ∀ n, n ∈ ["bool", "int", "str", "tuple", "list", "dict"] → isiD d n = some (isI d n) := fun n hn => isiD_eq (shp_raw h8) hn
  have hzl := sizeLine_eq
  refine ⟨_, ei _ (by decide), ?_⟩
  cases d with
  | tup xs =>
    have hd2 := bnOk_shp hd
    rw [bnOk, Bool.and_eq_true, List.all_eq_true] at hd
    rw [shp_tup, List.all_eq_true] at hd2
    have hlen : xs.length ≤ 1000 := of_decide_eq_true hd.1
    have hall := hd.2
    have hcut : ∀ lo hi, (cutD xs lo hi).length ≤ 1000 := fun lo hi => Nat.le_trans (cutD_length xs lo hi) hlen
    have hcs : ∀ lo hi, ∀ x ∈ cutD xs lo hi, shp n x = true := fun lo hi x hx => hd2 x (mem_cutD hx)
    simp only [dRet, dRetN, dSeq, dIfS, dSet, dPar, dAug, dFor, dDrop, dDropM, dSetM, dSetF, fLst, fItems, mBm, dNewD, dPutO, dNext, dBreak, dCont, dAndV, dOrV, dNotV, dAnd, dOr, dNot, dB, dIf, dTup, dLst, dOp, dUn, dCallP, dCall, lfP, dCons, dNil, dVar, dC, dChain, dOpO, dCallO, dItems, dEnum, dRange1, dRange2, dLc, dLc2, dNoPart, dPart, dSl, dTru, gtName, gtTup, gtCons, gtNil, dYes, dGet, dGetO, dRevT, dRevL, lcBody, lcOut, lcIn, wipeD, List.map_cons, List.map_nil, List.cons_append, List.nil_append, List.length_cons, List.length_nil, Nat.reduceAdd, Nat.reduceSub, Nat.zero_add, Nat.sub_self, List.replicate_zero, List.replicate_succ, List.getElem?_cons_zero, List.getElem?_cons_succ, List.set_cons_zero, List.set_cons_succ, Option.some.injEq, Dv.Slot.d.injEq, Dv.Slot.own.injEq, Ob.lst.injEq, Ob.dic.injEq, exists_eq_left', exists_eq_left, exists_and_left, List.cons.injEq, and_true, true_and, and_assoc, D.raw.injEq, V.ty.injEq, D.bl.injEq, D.int.injEq, D.str.injEq, D.tup.injEq, D.lst.injEq, Bool.true_eq_false, Bool.false_eq_true, if_true, if_false, ite_true, ite_false, reduceIte, reduceCtorEq, false_or, or_false, itemsD_tup, itemsD_lst, itemsD_dic, exists_const, addP_int, addP_str, addP_tup, addP_lst, cmpP_int, intP_int, slD_tup, slD_lst, lenD_tup, lenD_lst, lenD_str]
    refine (if_pos rfl).mpr ⟨Nat.zero_le _, h8, rfl, ?_⟩
    by_cases q : eqD (.tup xs) (.tup []) = true
    · rw [q]
      refine (if_neg (by decide)).mpr ?_
      refine ⟨_, ei _ (by decide), (if_pos rfl).mpr fun hz => ⟨p, _, rfl, rfl, by omega, fun i hi0 hi1 => ?_⟩⟩
      refine ⟨i, rfl, (?_ : addP _ _ _)⟩
      rw [addP_int]
      have c1 := hcut none (some i)
      have c2 := hcut (some (i + 1)) none
      have c3 := hcut (some (-1)) none
      refine ⟨_, rfl, by omega, by omega, Nat.zero_le _, by decide, p, _, rfl, rfl, (fun z => nomatch z), fun x hx => h x ?_⟩
      simp only [List.mem_cons, List.mem_nil_iff, or_false] at hx
      rcases hx with rfl | rfl | rfl | rfl | rfl | rfl
      · rw [shp_tup, List.all_eq_true]
        exact fun x hx => (List.mem_append.mp hx).elim (hcs _ _ x) (hcs _ _ x)
      · rw [shp_tup, List.all_eq_true]
        exact fun x hx => (List.mem_append.mp hx).elim (hd2 x) (hcs _ _ x)
      · rw [shp_tup, List.all_eq_true]
        exact fun x hx => hd2 x (List.mem_reverse.mp hx)
      · exact shp_non _
      · simp [shp_tup]
      · rw [shp_lst, List.all_eq_true]
        exact hd2
    · have hne : xs ≠ [] := fun z => by
        subst z
        exact q (by simp [eqD, D.py, PyData.eqv, pys, PyData.eqvAll])
      have hpos : 0 < xs.length := List.length_pos_iff.mpr hne
      rw [Bool.not_eq_true] at q
      rw [q]
      refine (if_pos rfl).mpr ⟨p, 4, rfl, rfl, by decide, fun r h0 h1 => ?_⟩
      simp only [cmpP_int, D.bl.injEq, exists_eq_left']
      by_cases hr0 : 0 < r
      · rw [decide_eq_true hr0]
        refine (if_pos rfl).mpr fun hz => ⟨p, _, rfl, rfl, by omega, fun i hi0 hi1 => ?_⟩
        obtain ⟨j, rfl⟩ : ∃ j : Nat, i = j := ⟨i.toNat, by omega⟩
        have hj : j < xs.length := by omega
        have c1 := hcut none (some j)
        have c2 := hcut (some (j + 1)) none
        refine ⟨_, rfl, _, rfl, xs[j], (L2.atI_nat (List.getElem?_eq_getElem hj) : atI xs _ = _), p, _, rfl, rfl, hall _ (List.getElem_mem hj), fun d' hd' => ⟨by decide, by omega, (?_ : addP _ _ _)⟩⟩
        rw [addP_int]
        refine ⟨_, rfl, by simp; omega, h _ ?_⟩
        rw [shp_tup, List.all_eq_true]
        intro x hx
        rcases List.mem_append.mp hx with hx | hx
        · rcases List.mem_append.mp hx with hx | hx
          · exact hcs _ _ x hx
          · rw [List.mem_singleton] at hx
            subst hx
            exact hd'
        · exact hcs _ _ x hx
      · rw [decide_eq_false hr0]
        refine (if_neg Bool.false_ne_true).mpr ?_
        refine ⟨_, ei _ (by decide), (if_pos rfl).mpr fun hz => ⟨p, _, rfl, rfl, by omega, fun i hi0 hi1 => ?_⟩⟩
        refine ⟨i, rfl, (?_ : addP _ _ _)⟩
        rw [addP_int]
        have c1 := hcut none (some i)
        have c2 := hcut (some (i + 1)) none
        have c3 := hcut (some (-1)) none
        refine ⟨_, rfl, by omega, by omega, Nat.zero_le _, by decide, p, _, rfl, rfl, (fun z => nomatch z), fun x hx => h x ?_⟩
        simp only [List.mem_cons, List.mem_nil_iff, or_false] at hx
        rcases hx with rfl | rfl | rfl | rfl | rfl | rfl
        · rw [shp_tup, List.all_eq_true]
          exact fun x hx => (List.mem_append.mp hx).elim (hcs _ _ x) (hcs _ _ x)
        · rw [shp_tup, List.all_eq_true]
          exact fun x hx => (List.mem_append.mp hx).elim (hd2 x) (hcs _ _ x)
        · rw [shp_tup, List.all_eq_true]
          exact fun x hx => hd2 x (List.mem_reverse.mp hx)
        · exact shp_non _
        · simp [shp_tup]
        · rw [shp_lst, List.all_eq_true]
          exact hd2
  | non =>
    exact (if_neg Bool.false_ne_true).mpr ⟨_, ei _ (by decide), (if_neg Bool.false_ne_true).mpr ⟨_, ei _ (by decide), (if_neg Bool.false_ne_true).mpr ⟨_, ei _ (by decide), (if_neg Bool.false_ne_true).mpr (h _ (shp_int _ _))⟩⟩⟩
  | int i =>
    simp only [dRet, dRetN, dSeq, dIfS, dSet, dPar, dAug, dFor, dDrop, dDropM, dSetM, dSetF, fLst, fItems, mBm, dNewD, dPutO, dNext, dBreak, dCont, dAndV, dOrV, dNotV, dAnd, dOr, dNot, dB, dIf, dTup, dLst, dOp, dUn, dCallP, dCall, lfP, dCons, dNil, dVar, dC, dChain, dOpO, dCallO, dItems, dEnum, dRange1, dRange2, dLc, dLc2, dNoPart, dPart, dSl, dTru, gtName, gtTup, gtCons, gtNil, dYes, dGet, dGetO, dRevT, dRevL, lcBody, lcOut, lcIn, wipeD, List.map_cons, List.map_nil, List.cons_append, List.nil_append, List.length_cons, List.length_nil, Nat.reduceAdd, Nat.reduceSub, Nat.zero_add, Nat.sub_self, List.replicate_zero, List.replicate_succ, List.getElem?_cons_zero, List.getElem?_cons_succ, List.set_cons_zero, List.set_cons_succ, Option.some.injEq, Dv.Slot.d.injEq, Dv.Slot.own.injEq, Ob.lst.injEq, Ob.dic.injEq, exists_eq_left', exists_eq_left, exists_and_left, List.cons.injEq, and_true, true_and, and_assoc, D.raw.injEq, V.ty.injEq, D.bl.injEq, D.int.injEq, D.str.injEq, D.tup.injEq, D.lst.injEq, Bool.true_eq_false, Bool.false_eq_true, if_true, if_false, ite_true, ite_false, reduceIte, reduceCtorEq, false_or, or_false, itemsD_tup, itemsD_lst, itemsD_dic, exists_const, addP_int, addP_str, addP_tup, addP_lst, cmpP_int, intP_int, slD_tup, slD_lst, lenD_tup, lenD_lst, lenD_str]
    refine (if_neg Bool.false_ne_true).mpr ⟨_, ei _ (by decide), (if_neg Bool.false_ne_true).mpr ⟨_, ei _ (by decide), (if_neg Bool.false_ne_true).mpr ⟨_, ei _ (by decide), (if_pos rfl).mpr ⟨by decide, p, _, rfl, rfl, (fun z => nomatch z), fun x hx => h x ?_⟩⟩⟩⟩
    simp only [List.mem_cons, List.mem_nil_iff, or_false] at hx
    rcases hx with rfl | rfl | rfl | rfl | rfl | rfl | rfl <;> first | exact shp_int _ _ | exact shp_bl _ _ | exact shp_non _
  | str x =>
    refine (if_neg Bool.false_ne_true).mpr ⟨_, ei _ (by decide), (if_neg Bool.false_ne_true).mpr ⟨_, ei _ (by decide), (if_pos rfl).mpr ⟨by decide, p, _, rfl, rfl, (fun z => nomatch z), fun x hx => h x ?_⟩⟩⟩
    simp only [List.mem_cons, List.mem_nil_iff, or_false] at hx
    rcases hx with rfl | rfl | rfl | rfl | rfl | rfl | rfl | rfl <;> first | exact shp_int _ _ | exact shp_non _ | (rw [shp_str]; decide +kernel)
  | bl _ => cases hd
  | lst _ => cases hd
  | dic _ => cases hd
  | raw _ => cases hd
theorem ok_bent_n (T : Bn mg) (Df : Def K mg "_law_bent" s__law_bent ["w", "value"]) (C__law_next : Cal P w K mg base "_law_next" 1 ["w", "many"] (spD ⟨P, w, K⟩ (Wd K) 2 o_next)) (C__law_pick : Cal P w K mg base "_law_pick" 2 ["w", "rows"] (spD ⟨P, w, K⟩ (Wd K) 2 o_pick)) :
    ∀ n : Nat, n ≤ 8 → Cal P w K mg base "_law_bent" (n + 2) ["w", "value"] (spD ⟨P, w, K⟩ (Wd K) 2 (o_bentN n))
  | 0, _ => Df.neverW fun ds s R ⟨p, d, _, _, z, _⟩ => by simp [bnOk] at z
  | n + 1, h => ok__law_bent_up T Df C__law_next C__law_pick n (n + 2) (by omega) (by omega) (ok_bent_n T Df C__law_next C__law_pick n (by omega))

end
end K00

set_option Elab.async false
set_option linter.all false
set_option maxRecDepth 100000
set_option maxHeartbeats 2000000
namespace K00
open PySem L2 Dv Bg

abbrev s_law : Stmt := top 38
theorem sc_law : FnScope ["script", "w", "turn", "width", "one", "other", "a", "b", "row", "value", "second", "known", "least", "most", "k", "own"] ["script"] (defScope s_law) := ⟨rfl, rfl, rfl, by decide +kernel, rfl, by decide +kernel, by decide +kernel⟩
section
variable {P : Program} {w : World} {K : PySem.W.Frag} {mg : Str → Option Value} {base : Heap}

def o_law : OkA := fun ds s R => ∃ ns : List Int, ds = [.lst (ns.map .int)] ∧ s = none ∧ ns.length ≤ 63 ∧ ∀ s', R (.bl true) s'
theorem ok_law {f : Addr} {fd : FuncData} (T : Bn mg) (F : Fun K "law" "law" s_law f fd) (C_bag : Cal P w K mg base "bag" 4 ["rows"] (spP ⟨P, w, K⟩ 1 o_bag)) (C_count_in : Cal P w K mg base "count_in" 1 ["rows", "row"] (spP ⟨P, w, K⟩ 2 o_count_in)) (C_both_bags : Cal P w K mg base "both_bags" 5 ["one", "other"] (spP ⟨P, w, K⟩ 2 o_both_bags)) (C_less_bags : Cal P w K mg base "less_bags" 6 ["one", "other"] (spP ⟨P, w, K⟩ 2 o_less_bags)) (C_common_bags : Cal P w K mg base "common_bags" 6 ["one", "other"] (spP ⟨P, w, K⟩ 2 o_common_bags)) (C_once_bag : Cal P w K mg base "once_bag" 5 ["one"] (spP ⟨P, w, K⟩ 1 o_once_bag)) (C_same : Cal P w K mg base "same" 1 ["a", "b"] (spP ⟨P, w, K⟩ 2 o_same)) (C_below : Cal P w K mg base "below" 3 ["a", "b"] (spP ⟨P, w, K⟩ 2 o_below)) (C_no : Cal P w K mg base "no" 1 ["truth"] (spP ⟨P, w, K⟩ 1 o_no)) (C_both : Cal P w K mg base "both" 1 ["one", "other"] (spP ⟨P, w, K⟩ 2 o_both)) (C_either : Cal P w K mg base "either" 1 ["one", "other"] (spP ⟨P, w, K⟩ 2 o_either)) (C_place_in_order : Cal P w K mg base "place_in_order" 2 ["value"] (spP ⟨P, w, K⟩ 1 o_place_in_order)) (C_is_value : Cal P w K mg base "is_value" 2 ["thing"] (spP ⟨P, w, K⟩ 1 o_is_value)) (C_is_bag : Cal P w K mg base "is_bag" 5 ["thing", "width"] (spP ⟨P, w, K⟩ 2 o_is_bag)) (C__law_says : Cal P w K mg base "_law_says" 1 ["seen", "due"] (spP ⟨P, w, K⟩ 2 o__law_says)) (C__law_same : Cal P w K mg base "_law_same" 7 ["seen", "due"] (spP ⟨P, w, K⟩ 2 o__law_same)) (C__law_place : Cal P w K mg base "_law_place" 1 ["value"] (spP ⟨P, w, K⟩ 1 o__law_place)) (C__law_bag : Cal P w K mg base "_law_bag" 2 ["rows"] (spP ⟨P, w, K⟩ 1 o__law_bag)) (C__law_bag_less : Cal P w K mg base "_law_bag_less" 3 ["one", "other"] (spP ⟨P, w, K⟩ 2 o__law_bag_less)) (C__law_is_value : Cal P w K mg base "_law_is_value" 2 ["value"] (spP ⟨P, w, K⟩ 1 o__law_is_value)) (C__law_is_bag : Cal P w K mg base "_law_is_bag" 3 ["value", "width"] (spP ⟨P, w, K⟩ 2 o__law_is_bag)) (C__law_draws : Cal P w K mg base "_law_draws" 1 ["script", "many"] (spP ⟨P, w, K⟩ 2 o__law_draws)) (C__law_next : Cal P w K mg base "_law_next" 1 ["w", "many"] (spD ⟨P, w, K⟩ (Wd K) 2 o_next)) (C__law_rows : Cal P w K mg base "_law_rows" 3 ["w", "width"] (spD ⟨P, w, K⟩ (Wd K) 2 o__law_rows)) (C__law_bent : Cal P w K mg base "_law_bent" 8 ["w", "value"] (spD ⟨P, w, K⟩ (Wd K) 2 (o_bentN 6))) : FnOk P w K mg base CX0 10 f fd ["script"] (spD ⟨P, w, K⟩ (Wd K) 1 o_law) := by
  have S := sc_law
  refine okD F S rfl fun cdv A outer s H E B hr => ?_
  refine ⟨_, (dss_cons (ds_enter (i := 1) S.nd rfl (by first | exact .inl rfl | exact .inr rfl) (de_fnP C__law_draws (hr.mono (by decide)) rfl (da_cons (dv 0) (da_cons de_int da_nil)))) (dss_cons (ds_for PassesOwn.never rfl (di_range1 rfl T.b_range (da_cons de_int da_nil)) (dg_name (i := 2) S.nd rfl (by first | exact .inl rfl | exact .inr rfl)) (dss_cons (ds_set (i := 3) S.nd rfl (by first | exact .inl rfl | exact .inr rfl) (de_op od_add de_int (de_fn C__law_next (hr.mono (by decide)) rfl (da_cons (dv 1) (da_cons de_int da_nil))))) (dss_cons (ds_par (i := 4) (j := 5) rfl S.nd rfl rfl (by decide) rfl rfl (da_cons (de_fn C__law_rows (hr.mono (by decide)) rfl (da_cons (dv 1) (da_cons (dv 3) da_nil))) (da_cons (de_fn C__law_rows (hr.mono (by decide)) rfl (da_cons (dv 1) (da_cons (dv 3) da_nil))) da_nil))) (dss_cons (ds_asg (de_tup (da_cons (de_fnP C__law_bag (hr.mono (by decide)) rfl (da_cons (dv 4) da_nil)) (da_cons (de_fnP C__law_bag (hr.mono (by decide)) rfl (da_cons (dv 5) da_nil)) da_nil))) (dg_tup (n := 2) rfl (dgs_cons (dg_name (i := 6) S.nd rfl (by first | exact .inl rfl | exact .inr rfl)) (dgs_cons (dg_name (i := 7) S.nd rfl (by first | exact .inl rfl | exact .inr rfl)) dgs_nil)))) (dss_cons (ds_if (dw_pt (dw_or (dt_not (dt_val (de_fnP C__law_same (hr.mono (by decide)) rfl (da_cons (de_fnP C_bag (hr.mono (by decide)) rfl (da_cons (de_callTy cd_list rfl T.b_list rfl (da_cons (dv 4) da_nil)) da_nil)) (da_cons (dv 6) da_nil))))) (dw_or (dt_not (dt_val (de_fnP C__law_same (hr.mono (by decide)) rfl (da_cons (de_fnP C_both_bags (hr.mono (by decide)) rfl (da_cons (dv 6) (da_cons (dv 7) da_nil))) (da_cons (de_fnP C__law_bag (hr.mono (by decide)) rfl (da_cons (de_op od_add (dv 6) (dv 7)) da_nil)) da_nil))))) (dw_or1 (dt_not (dt_val (de_fnP C__law_same (hr.mono (by decide)) rfl (da_cons (de_fnP C_less_bags (hr.mono (by decide)) rfl (da_cons (dv 6) (da_cons (dv 7) da_nil))) (da_cons (de_fnP C__law_bag_less (hr.mono (by decide)) rfl (da_cons (dv 6) (da_cons (dv 7) da_nil))) da_nil))))))))) (dss_one (ds_ret de_bl)) dss_nil) (dss_cons (ds_if (dt_not (dt_val (de_fnP C__law_same (hr.mono (by decide)) rfl (da_cons (de_fnP C_common_bags (hr.mono (by decide)) rfl (da_cons (dv 6) (da_cons (dv 7) da_nil))) (da_cons (de_fnP C__law_bag_less (hr.mono (by decide)) rfl (da_cons (dv 6) (da_cons (de_fnP C__law_bag_less (hr.mono (by decide)) rfl (da_cons (dv 6) (da_cons (dv 7) da_nil))) da_nil))) da_nil))))) (dss_one (ds_ret de_bl)) dss_nil) (dss_cons (ds_if (dt_not (dt_val (de_fnP C__law_same (hr.mono (by decide)) rfl (da_cons (de_fnP C_once_bag (hr.mono (by decide)) rfl (da_cons (dv 6) da_nil)) (da_cons (de_fnP C__law_bag (hr.mono (by decide)) rfl (da_cons (de_lc (own := [("k", 14)]) rfl S.nd (di_range1 rfl T.b_range (da_cons (de_callB cd_len rfl T.b_len rfl (da_cons (dv 6) da_nil)) da_nil)) (blkOk_by (by rfl)) (fun s H C cl fp => (dg_name (i := 14) S.nd rfl (by first | exact .inl rfl | exact .inr rfl))) (fun s H C cl fp => (dts_one (dt_cmp (od_nin hr.u65 8) (de_ix xd_seq (dv 6) (dv 14)) (de_slice sd_seq (dv 6) do_none (do_some (dv 14)))))) (fun s H C cl fp => (de_ix xd_seq (dv 6) (dv 14)))) da_nil)) da_nil))))) (dss_one (ds_ret de_bl)) dss_nil) (dss_cons (ds_for PassesOwn.never rfl (di_val (de_op od_add (dv 4) (dv 5))) (dg_name (i := 8) S.nd rfl (by first | exact .inl rfl | exact .inr rfl)) (dss_cons (ds_if (dt_not (dt_val (de_fnP C__law_same (hr.mono (by decide)) rfl (da_cons (de_fnP C_count_in (hr.mono (by decide)) rfl (da_cons (dv 6) (da_cons (dv 8) da_nil))) (da_cons (de_callB cd_len rfl T.b_len rfl (da_cons (de_lc (own := [("own", 15)]) rfl S.nd (di_val (dv 4)) (blkOk_by (by rfl)) (fun s H C cl fp => (dg_name (i := 15) S.nd rfl (by first | exact .inl rfl | exact .inr rfl))) (fun s H C cl fp => (dts_one (dt_cmp (od_eq hr.units 8) (dv 15) (dv 8)))) (fun s H C cl fp => (dv 15))) da_nil)) da_nil))))) (dss_one (ds_ret de_bl)) dss_nil) (dss_one (ds_for PassesOwn.never rfl (di_val (dv 8)) (dg_name (i := 9) S.nd rfl (by first | exact .inl rfl | exact .inr rfl)) (dss_cons (ds_if (dt_not (dt_val (de_fnP C__law_same (hr.mono (by decide)) rfl (da_cons (de_fnP C_place_in_order (hr.mono (by decide)) rfl (da_cons (dv 9) da_nil)) (da_cons (de_fnP C__law_place (hr.mono (by decide)) rfl (da_cons (dv 9) da_nil)) da_nil))))) (dss_one (ds_ret de_bl)) dss_nil) (dss_one (ds_for PassesOwn.never rfl (di_val (de_lst (da_cons de_non (da_cons de_int (da_cons de_str (da_cons (dv 9) da_nil)))))) (dg_name (i := 10) S.nd rfl (by first | exact .inl rfl | exact .inr rfl)) (dss_cons (ds_set (i := 11) S.nd rfl (by first | exact .inl rfl | exact .inr rfl) (de_and (de_cmp od_notN (dv 9) de_non) (de_one (de_cmp od_notN (dv 10) de_non)))) (dss_cons (ds_if (dt_not (dt_val (de_fnP C__law_same (hr.mono (by decide)) rfl (da_cons (de_fnP C_same (hr.mono (by decide)) rfl (da_cons (dv 9) (da_cons (dv 10) da_nil))) (da_cons (de_if (dt_val (dv 11)) (de_cmp (od_eq hr.units 8) (dv 9) (dv 10)) de_non) da_nil))))) (dss_one (ds_ret de_bl)) dss_nil) (dss_one (ds_if (dt_not (dt_val (de_fnP C__law_same (hr.mono (by decide)) rfl (da_cons (de_fnP C_below (hr.mono (by decide)) rfl (da_cons (dv 9) (da_cons (dv 10) da_nil))) (da_cons (de_if (dt_val (dv 11)) (de_cmp (od_lt hr.units) (de_fnP C__law_place (hr.mono (by decide)) rfl (da_cons (dv 9) da_nil)) (de_fnP C__law_place (hr.mono (by decide)) rfl (da_cons (dv 10) da_nil))) de_non) da_nil))))) (dss_one (ds_ret de_bl)) dss_nil))))))))))) (dss_cons (ds_for PassesOwn.never rfl (di_val (de_lst (da_cons de_non (da_cons de_int (da_cons (de_un ud_neg de_int) (da_cons de_bl (da_cons de_str (da_cons de_str (da_cons de_str (da_cons de_str (da_cons (de_tup da_nil) (da_cons de_str da_nil)))))))))))) (dg_name (i := 9) S.nd rfl (by first | exact .inl rfl | exact .inr rfl)) (dss_one (ds_if (dt_not (dt_val (de_fnP C__law_says (hr.mono (by decide)) rfl (da_cons (de_fnP C_is_value (hr.mono (by decide)) rfl (da_cons (dv 9) da_nil)) (da_cons (de_fnP C__law_is_value (hr.mono (by decide)) rfl (da_cons (dv 9) da_nil)) da_nil))))) (dss_one (ds_ret de_bl)) dss_nil))) (dss_one (ds_for PassesOwn.never rfl (di_val (de_lst (da_cons (dv 6) (da_cons (de_callTy cd_list rfl T.b_list rfl (da_cons (dv 6) da_nil)) (da_cons (de_revT (dv 6)) (da_cons (de_op od_add (dv 6) (de_tup (da_cons (de_op od_rep1 (de_tup (da_cons de_bl da_nil)) (dv 3)) da_nil))) (da_cons (de_fn C__law_bent (hr.mono (by decide)) rfl (da_cons (dv 1) (da_cons (dv 6) da_nil))) (da_cons de_non (da_cons (de_callTy cd_tuple rfl T.b_tuple rfl (da_cons (dv 4) da_nil)) da_nil))))))))) (dg_name (i := 9) S.nd rfl (by first | exact .inl rfl | exact .inr rfl)) (dss_one (ds_if (dt_not (dt_val (de_fnP C__law_says (hr.mono (by decide)) rfl (da_cons (de_fnP C_is_bag (hr.mono (by decide)) rfl (da_cons (dv 9) (da_cons (dv 3) da_nil))) (da_cons (de_fnP C__law_is_bag (hr.mono (by decide)) rfl (da_cons (dv 9) (da_cons (dv 3) da_nil))) da_nil))))) (dss_one (ds_ret de_bl)) dss_nil))))))))))))) (dss_cons (ds_for PassesOwn.never rfl (di_val (de_lst (da_cons de_bl (da_cons de_bl (da_cons de_non da_nil))))) (dg_name (i := 4) S.nd rfl (by first | exact .inl rfl | exact .inr rfl)) (dss_cons (ds_if (dt_not (dt_val (de_fnP C__law_same (hr.mono (by decide)) rfl (da_cons (de_fnP C_no (hr.mono (by decide)) rfl (da_cons (dv 4) da_nil)) (da_cons (de_if (dt_cmp od_isN (dv 4) de_non) de_non (de_not (dv 4))) da_nil))))) (dss_one (ds_ret de_bl)) dss_nil) (dss_one (ds_for PassesOwn.never rfl (di_val (de_lst (da_cons de_bl (da_cons de_bl (da_cons de_non da_nil))))) (dg_name (i := 5) S.nd rfl (by first | exact .inl rfl | exact .inr rfl)) (dss_cons (ds_set (i := 12) S.nd rfl (by first | exact .inl rfl | exact .inr rfl) (de_if (dt_cmp (od_in hr.u65 8) de_bl (de_tup (da_cons (dv 4) (da_cons (dv 5) da_nil)))) de_bl (de_if (dt_cmp (od_in hr.u65 8) de_non (de_tup (da_cons (dv 4) (da_cons (dv 5) da_nil)))) de_non de_bl))) (dss_cons (ds_set (i := 13) S.nd rfl (by first | exact .inl rfl | exact .inr rfl) (de_if (dt_cmp (od_in hr.u65 8) de_bl (de_tup (da_cons (dv 4) (da_cons (dv 5) da_nil)))) de_bl (de_if (dt_cmp (od_in hr.u65 8) de_non (de_tup (da_cons (dv 4) (da_cons (dv 5) da_nil)))) de_non de_bl))) (dss_one (ds_if (dw_pt (dw_or (dt_not (dt_val (de_fnP C__law_same (hr.mono (by decide)) rfl (da_cons (de_fnP C_both (hr.mono (by decide)) rfl (da_cons (dv 4) (da_cons (dv 5) da_nil))) (da_cons (dv 12) da_nil))))) (dw_or1 (dt_not (dt_val (de_fnP C__law_same (hr.mono (by decide)) rfl (da_cons (de_fnP C_either (hr.mono (by decide)) rfl (da_cons (dv 4) (da_cons (dv 5) da_nil))) (da_cons (dv 13) da_nil)))))))) (dss_one (ds_ret de_bl)) dss_nil)))))))) (dss_one (ds_ret de_bl))))), ?_⟩
  rintro ds s R hl ⟨ns, rfl, rfl, hlen, h⟩

  simp only [dRet, dRetN, dSeq, dIfS, dSet, dPar, dAug, dFor, dDrop, dDropM, dSetM, dSetF, fLst, fItems, mBm, dNewD, dPutO, dNext, dBreak, dCont, dAndV, dOrV, dNotV, dAnd, dOr, dNot, dB, dIf, dTup, dLst, dOp, dUn, dCallP, dCall, lfP, dCons, dNil, dVar, dC, dChain, dOpO, dCallO, dItems, dEnum, dRange1, dRange2, dLc, dLc2, dNoPart, dPart, dSl, dTru, gtName, gtTup, gtCons, gtNil, dYes, dGet, dGetO, dRevT, dRevL, lcBody, lcOut, lcIn, wipeD, List.map_cons, List.map_nil, List.cons_append, List.nil_append, List.length_cons, List.length_nil, Nat.reduceAdd, Nat.reduceSub, Nat.zero_add, Nat.sub_self, List.replicate_zero, List.replicate_succ, List.getElem?_cons_zero, List.getElem?_cons_succ, List.set_cons_zero, List.set_cons_succ, Option.some.injEq, Dv.Slot.d.injEq, Dv.Slot.own.injEq, Ob.lst.injEq, Ob.dic.injEq, exists_eq_left', exists_eq_left, exists_and_left, List.cons.injEq, and_true, true_and, and_assoc, D.raw.injEq, V.ty.injEq, D.bl.injEq, D.int.injEq, D.str.injEq, D.tup.injEq, D.lst.injEq, Bool.true_eq_false, Bool.false_eq_true, if_true, if_false, ite_true, ite_false, reduceIte, reduceCtorEq, false_or, or_false, itemsD_tup, itemsD_lst, itemsD_dic, exists_const, addP_int, addP_str, addP_tup, addP_lst, cmpP_int, intP_int, slD_tup, slD_lst, lenD_tup, lenD_lst, lenD_str, dEnter]

  refine ⟨ns, rfl, hlen, fun ms => ⟨ms, rfl, fun p => ⟨by decide, by decide, ?_⟩⟩⟩
  rw [rangeD_map]
  refine for_mapg (pre := []) (fun _ ρ s => s = some p ∧ ∃ (x2 x3 x4 x5 x6 x7 x8 x9 x10 x11 x12 x13 x14 x15 : Dv.Slot), ρ = [.d (.lst (ns.map .int)), .d (.raw (.ref p)), x2, x3, x4, x5, x6, x7, x8, x9, x10, x11, x12, x13, x14, x15]) ⟨rfl, _, _, _, _, _, _, _, _, _, _, _, _, _, _, rfl⟩ ?_ ?_
  · rintro qs t rest er ρ s ⟨rfl, x2, x3, x4, x5, x6, x7, x8, x9, x10, x11, x12, x13, x14, x15, rfl⟩ K hK

    simp only [dRet, dRetN, dSeq, dIfS, dSet, dPar, dAug, dFor, dDrop, dDropM, dSetM, dSetF, fLst, fItems, mBm, dNewD, dPutO, dNext, dBreak, dCont, dAndV, dOrV, dNotV, dAnd, dOr, dNot, dB, dIf, dTup, dLst, dOp, dUn, dCallP, dCall, lfP, dCons, dNil, dVar, dC, dChain, dOpO, dCallO, dItems, dEnum, dRange1, dRange2, dLc, dLc2, dNoPart, dPart, dSl, dTru, gtName, gtTup, gtCons, gtNil, dYes, dGet, dGetO, dRevT, dRevL, lcBody, lcOut, lcIn, wipeD, List.map_cons, List.map_nil, List.cons_append, List.nil_append, List.length_cons, List.length_nil, Nat.reduceAdd, Nat.reduceSub, Nat.zero_add, Nat.sub_self, List.replicate_zero, List.replicate_succ, List.getElem?_cons_zero, List.getElem?_cons_succ, List.set_cons_zero, List.set_cons_succ, Option.some.injEq, Dv.Slot.d.injEq, Dv.Slot.own.injEq, Ob.lst.injEq, Ob.dic.injEq, exists_eq_left', exists_eq_left, exists_and_left, List.cons.injEq, and_true, true_and, and_assoc, D.raw.injEq, V.ty.injEq, D.bl.injEq, D.int.injEq, D.str.injEq, D.tup.injEq, D.lst.injEq, Bool.true_eq_false, Bool.false_eq_true, if_true, if_false, ite_true, ite_false, reduceIte, reduceCtorEq, false_or, or_false, itemsD_tup, itemsD_lst, itemsD_dic, exists_const, addP_int, addP_str, addP_tup, addP_lst, cmpP_int, intP_int, slD_tup, slD_lst, lenD_tup, lenD_lst, lenD_str]

    refine ⟨p, 2, rfl, rfl, by decide, fun r hr0 hr1 => ?_⟩

    simp only [dRet, dRetN, dSeq, dIfS, dSet, dPar, dAug, dFor, dDrop, dDropM, dSetM, dSetF, fLst, fItems, mBm, dNewD, dPutO, dNext, dBreak, dCont, dAndV, dOrV, dNotV, dAnd, dOr, dNot, dB, dIf, dTup, dLst, dOp, dUn, dCallP, dCall, lfP, dCons, dNil, dVar, dC, dChain, dOpO, dCallO, dItems, dEnum, dRange1, dRange2, dLc, dLc2, dNoPart, dPart, dSl, dTru, gtName, gtTup, gtCons, gtNil, dYes, dGet, dGetO, dRevT, dRevL, lcBody, lcOut, lcIn, wipeD, List.map_cons, List.map_nil, List.cons_append, List.nil_append, List.length_cons, List.length_nil, Nat.reduceAdd, Nat.reduceSub, Nat.zero_add, Nat.sub_self, List.replicate_zero, List.replicate_succ, List.getElem?_cons_zero, List.getElem?_cons_succ, List.set_cons_zero, List.set_cons_succ, Option.some.injEq, Dv.Slot.d.injEq, Dv.Slot.own.injEq, Ob.lst.injEq, Ob.dic.injEq, exists_eq_left', exists_eq_left, exists_and_left, List.cons.injEq, and_true, true_and, and_assoc, D.raw.injEq, V.ty.injEq, D.bl.injEq, D.int.injEq, D.str.injEq, D.tup.injEq, D.lst.injEq, Bool.true_eq_false, Bool.false_eq_true, if_true, if_false, ite_true, ite_false, reduceIte, reduceCtorEq, false_or, or_false, itemsD_tup, itemsD_lst, itemsD_dic, exists_const, addP_int, addP_str, addP_tup, addP_lst, cmpP_int, intP_int, slD_tup, slD_lst, lenD_tup, lenD_lst, lenD_str]

    have hw : 1 + r = 1 ∨ 1 + r = 2 := by omega
    generalize 1 + r = wd at *
    refine ⟨p, wd, rfl, rfl, by omega, by omega, fun rs hrs hrv => ?_⟩

    simp only [dRet, dRetN, dSeq, dIfS, dSet, dPar, dAug, dFor, dDrop, dDropM, dSetM, dSetF, fLst, fItems, mBm, dNewD, dPutO, dNext, dBreak, dCont, dAndV, dOrV, dNotV, dAnd, dOr, dNot, dB, dIf, dTup, dLst, dOp, dUn, dCallP, dCall, lfP, dCons, dNil, dVar, dC, dChain, dOpO, dCallO, dItems, dEnum, dRange1, dRange2, dLc, dLc2, dNoPart, dPart, dSl, dTru, gtName, gtTup, gtCons, gtNil, dYes, dGet, dGetO, dRevT, dRevL, lcBody, lcOut, lcIn, wipeD, List.map_cons, List.map_nil, List.cons_append, List.nil_append, List.length_cons, List.length_nil, Nat.reduceAdd, Nat.reduceSub, Nat.zero_add, Nat.sub_self, List.replicate_zero, List.replicate_succ, List.getElem?_cons_zero, List.getElem?_cons_succ, List.set_cons_zero, List.set_cons_succ, Option.some.injEq, Dv.Slot.d.injEq, Dv.Slot.own.injEq, Ob.lst.injEq, Ob.dic.injEq, exists_eq_left', exists_eq_left, exists_and_left, List.cons.injEq, and_true, true_and, and_assoc, D.raw.injEq, V.ty.injEq, D.bl.injEq, D.int.injEq, D.str.injEq, D.tup.injEq, D.lst.injEq, Bool.true_eq_false, Bool.false_eq_true, if_true, if_false, ite_true, ite_false, reduceIte, reduceCtorEq, false_or, or_false, itemsD_tup, itemsD_lst, itemsD_dic, exists_const, addP_int, addP_str, addP_tup, addP_lst, cmpP_int, intP_int, slD_tup, slD_lst, lenD_tup, lenD_lst, lenD_str]

    refine ⟨p, wd, rfl, rfl, by omega, by omega, fun ss hss hsv => ?_⟩

    simp only [dRet, dRetN, dSeq, dIfS, dSet, dPar, dAug, dFor, dDrop, dDropM, dSetM, dSetF, fLst, fItems, mBm, dNewD, dPutO, dNext, dBreak, dCont, dAndV, dOrV, dNotV, dAnd, dOr, dNot, dB, dIf, dTup, dLst, dOp, dUn, dCallP, dCall, lfP, dCons, dNil, dVar, dC, dChain, dOpO, dCallO, dItems, dEnum, dRange1, dRange2, dLc, dLc2, dNoPart, dPart, dSl, dTru, gtName, gtTup, gtCons, gtNil, dYes, dGet, dGetO, dRevT, dRevL, lcBody, lcOut, lcIn, wipeD, List.map_cons, List.map_nil, List.cons_append, List.nil_append, List.length_cons, List.length_nil, Nat.reduceAdd, Nat.reduceSub, Nat.zero_add, Nat.sub_self, List.replicate_zero, List.replicate_succ, List.getElem?_cons_zero, List.getElem?_cons_succ, List.set_cons_zero, List.set_cons_succ, Option.some.injEq, Dv.Slot.d.injEq, Dv.Slot.own.injEq, Ob.lst.injEq, Ob.dic.injEq, exists_eq_left', exists_eq_left, exists_and_left, List.cons.injEq, and_true, true_and, and_assoc, D.raw.injEq, V.ty.injEq, D.bl.injEq, D.int.injEq, D.str.injEq, D.tup.injEq, D.lst.injEq, Bool.true_eq_false, Bool.false_eq_true, if_true, if_false, ite_true, ite_false, reduceIte, reduceCtorEq, false_or, or_false, itemsD_tup, itemsD_lst, itemsD_dic, exists_const, addP_int, addP_str, addP_tup, addP_lst, cmpP_int, intP_int, slD_tup, slD_lst, lenD_tup, lenD_lst, lenD_str]

    have sb : ∀ X : List Row, smOk 6 (bagD X) = true := fun X => sm_bag X 3
    have hA := bagR_length rs
    have hB := bagR_length ss
    have hzl := sizeLine_eq
    refine ⟨rs, _, rfl, .inr rfl, ss, _, rfl, .inr rfl, by decide, rs, _, rfl, .inr rfl, _, rfl, sb _, true, rfl, (if_neg (by decide)).mpr ?_⟩
    have pA := bagR_perm_self rs
    generalize hAe : bagR rs = A at *
    generalize hBe : bagR ss = B' at *
    refine ⟨_, _, A, B', rfl, .inl rfl, .inl rfl, by omega, (?_ : addP (bagD A) (bagD B') _)⟩
    rw [addP_bag]
    refine ⟨by omega, A ++ B', _, rfl, .inl rfl, _, rfl, sb _, true, rfl, (if_neg (by decide)).mpr ?_⟩
    have l1 := lessGo_len A B'
    have l2 := lessGo_len A (bagR (lessGo B' A))
    refine ⟨_, _, A, B', rfl, .inl rfl, .inl rfl, by omega, by rw [(less_perm A B').length_eq]; omega, A, B', _, _, rfl, .inl rfl, .inl rfl, by omega, ?_⟩
    rw [bagR_eq (less_perm A B')]
    refine ⟨_, rfl, sb _, true, rfl, (if_neg (by decide)).mpr ?_⟩
    refine ⟨_, _, A, B', rfl, .inl rfl, .inl rfl, by omega, by rw [(common_perm A B').length_eq]; omega, A, B', _, _, rfl, .inl rfl, .inl rfl, by omega, ?_⟩
    refine ⟨A, bagR (lessGo B' A), _, _, rfl, .inl rfl, .inl rfl, by rw [bagR_length]; omega, ?_⟩
    rw [bagR_eq (common_perm A B')]
    refine ⟨_, rfl, sb _, true, rfl, (if_neg (by decide)).mpr ?_⟩
    refine ⟨_, A, rfl, .inl rfl, ?_⟩

    simp only [dRet, dRetN, dSeq, dIfS, dSet, dPar, dAug, dFor, dDrop, dDropM, dSetM, dSetF, fLst, fItems, mBm, dNewD, dPutO, dNext, dBreak, dCont, dAndV, dOrV, dNotV, dAnd, dOr, dNot, dB, dIf, dTup, dLst, dOp, dUn, dCallP, dCall, lfP, dCons, dNil, dVar, dC, dChain, dOpO, dCallO, dItems, dEnum, dRange1, dRange2, dLc, dLc2, dNoPart, dPart, dSl, dTru, gtName, gtTup, gtCons, gtNil, dYes, dGet, dGetO, dRevT, dRevL, lcBody, lcOut, lcIn, wipeD, List.map_cons, List.map_nil, List.cons_append, List.nil_append, List.length_cons, List.length_nil, Nat.reduceAdd, Nat.reduceSub, Nat.zero_add, Nat.sub_self, List.replicate_zero, List.replicate_succ, List.getElem?_cons_zero, List.getElem?_cons_succ, List.set_cons_zero, List.set_cons_succ, Option.some.injEq, Dv.Slot.d.injEq, Dv.Slot.own.injEq, Ob.lst.injEq, Ob.dic.injEq, exists_eq_left', exists_eq_left, exists_and_left, List.cons.injEq, and_true, true_and, and_assoc, D.raw.injEq, V.ty.injEq, D.bl.injEq, D.int.injEq, D.str.injEq, D.tup.injEq, D.lst.injEq, Bool.true_eq_false, Bool.false_eq_true, if_true, if_false, ite_true, ite_false, reduceIte, reduceCtorEq, false_or, or_false, itemsD_tup, itemsD_lst, itemsD_dic, exists_const, addP_int, addP_str, addP_tup, addP_lst, cmpP_int, intP_int, slD_tup, slD_lst, lenD_tup, lenD_lst, lenD_str]

    refine ⟨A.length, by simp [lenD, bagD], fun _ => ⟨by omega, by omega, by simp [rangeD]; omega, ?_⟩⟩
    rw [rangeD_map, show ((A.length : Nat) : Int).toNat = A.length from rfl]
    refine lc_filter (fun k => decide (atR A k ∉ A.take k)) (fun k => rowD (atR A k)) (fun k hk K2 hk2 => ?_) ?_
    · have hkl : k < A.length := by simpa using hk
      have ea : ixD (bagD A) (0 + (k : Nat)) = some (rowD (atR A k)) := by
        rw [Int.zero_add]
        refine (L2.atI_nat ?_ : atI (A.map rowD) _ = _)
        rw [List.getElem?_map, atR_eq hkl]
        rfl
      have es : slD (bagD A) none (some (0 + (k : Nat))) = some (.tup ((A.take k).map rowD)) := by
        rw [Int.zero_add, bagD, slD_tup, cut_take _ (by rw [List.length_map]; omega), List.map_take]

      simp only [dRet, dRetN, dSeq, dIfS, dSet, dPar, dAug, dFor, dDrop, dDropM, dSetM, dSetF, fLst, fItems, mBm, dNewD, dPutO, dNext, dBreak, dCont, dAndV, dOrV, dNotV, dAnd, dOr, dNot, dB, dIf, dTup, dLst, dOp, dUn, dCallP, dCall, lfP, dCons, dNil, dVar, dC, dChain, dOpO, dCallO, dItems, dEnum, dRange1, dRange2, dLc, dLc2, dNoPart, dPart, dSl, dTru, gtName, gtTup, gtCons, gtNil, dYes, dGet, dGetO, dRevT, dRevL, lcBody, lcOut, lcIn, wipeD, List.map_cons, List.map_nil, List.cons_append, List.nil_append, List.length_cons, List.length_nil, Nat.reduceAdd, Nat.reduceSub, Nat.zero_add, Nat.sub_self, List.replicate_zero, List.replicate_succ, List.getElem?_cons_zero, List.getElem?_cons_succ, List.set_cons_zero, List.set_cons_succ, Option.some.injEq, Dv.Slot.d.injEq, Dv.Slot.own.injEq, Ob.lst.injEq, Ob.dic.injEq, exists_eq_left', exists_eq_left, exists_and_left, List.cons.injEq, and_true, true_and, and_assoc, D.raw.injEq, V.ty.injEq, D.bl.injEq, D.int.injEq, D.str.injEq, D.tup.injEq, D.lst.injEq, Bool.true_eq_false, Bool.false_eq_true, if_true, if_false, ite_true, ite_false, reduceIte, reduceCtorEq, false_or, or_false, itemsD_tup, itemsD_lst, itemsD_dic, exists_const, addP_int, addP_str, addP_tup, addP_lst, cmpP_int, intP_int, slD_tup, slD_lst, lenD_tup, lenD_lst, lenD_str]

      refine ⟨_, ea, _, es, _, .inl rfl, shp_row _ 7, fun x hx => ?_, ?_⟩
      · obtain ⟨y, _, rfl⟩ := List.mem_map.mp hx
        exact shp_row y 7
      · rw [inD_row]
        by_cases hm : atR A k ∈ A.take k
        · rw [decide_eq_true hm]
          rw [decide_eq_false (fun z => z hm)] at hk2
          exact hk2
        · rw [decide_eq_false hm]
          rw [decide_eq_true hm] at hk2
          exact ⟨_, ea, hk2⟩
    have ef : ((List.range A.length).filter fun k => decide (atR A k ∉ A.take k)).map (fun k => rowD (atR A k)) = (firsts A).map rowD := by
      rw [← firsts_range, List.map_map]
      rfl
    rw [List.nil_append, ef]
    refine ⟨firsts A, _, rfl, .inr rfl, _, rfl, sb _, true, rfl, (if_neg (by decide)).mpr ?_⟩
    refine ⟨by simp; omega, fun _ => ?_⟩
    rw [← List.map_append]
    refine for_mapg (pre := []) (fun _ ρ s => s = some p ∧ ∃ (x8 x9 x10 x11 x12 x13 x14 x15 : Dv.Slot), ρ = [.d (.lst (ns.map .int)), .d (.raw (.ref p)), .d (.int (0 + (t : Nat))), .d (.int wd), .d (.lst (rs.map rowD)), .d (.lst (ss.map rowD)), .d (bagD A), .d (bagD B'), x8, x9, x10, x11, x12, x13, x14, x15]) ⟨rfl, _, _, _, _, _, _, _, _, rfl⟩ ?_ ?_
    · rintro qs2 row rest2 er2 ρ s ⟨rfl, x8, x9, x10, x11, x12, x13, x14, x15, rfl⟩ K2 hK2

      simp only [dRet, dRetN, dSeq, dIfS, dSet, dPar, dAug, dFor, dDrop, dDropM, dSetM, dSetF, fLst, fItems, mBm, dNewD, dPutO, dNext, dBreak, dCont, dAndV, dOrV, dNotV, dAnd, dOr, dNot, dB, dIf, dTup, dLst, dOp, dUn, dCallP, dCall, lfP, dCons, dNil, dVar, dC, dChain, dOpO, dCallO, dItems, dEnum, dRange1, dRange2, dLc, dLc2, dNoPart, dPart, dSl, dTru, gtName, gtTup, gtCons, gtNil, dYes, dGet, dGetO, dRevT, dRevL, lcBody, lcOut, lcIn, wipeD, List.map_cons, List.map_nil, List.cons_append, List.nil_append, List.length_cons, List.length_nil, Nat.reduceAdd, Nat.reduceSub, Nat.zero_add, Nat.sub_self, List.replicate_zero, List.replicate_succ, List.getElem?_cons_zero, List.getElem?_cons_succ, List.set_cons_zero, List.set_cons_succ, Option.some.injEq, Dv.Slot.d.injEq, Dv.Slot.own.injEq, Ob.lst.injEq, Ob.dic.injEq, exists_eq_left', exists_eq_left, exists_and_left, List.cons.injEq, and_true, true_and, and_assoc, D.raw.injEq, V.ty.injEq, D.bl.injEq, D.int.injEq, D.str.injEq, D.tup.injEq, D.lst.injEq, Bool.true_eq_false, Bool.false_eq_true, if_true, if_false, ite_true, ite_false, reduceIte, reduceCtorEq, false_or, or_false, itemsD_tup, itemsD_lst, itemsD_dic, exists_const, addP_int, addP_str, addP_tup, addP_lst, cmpP_int, intP_int, slD_tup, slD_lst, lenD_tup, lenD_lst, lenD_str]

      refine ⟨_, A, row, rfl, .inl rfl, fun hz1 => ⟨hz1, ?_⟩⟩
      refine lc_filter (fun s => decide (s = row)) rowD (fun s hs K3 hk3 => ?_) ?_
      · simp only [dRet, dRetN, dSeq, dIfS, dSet, dPar, dAug, dFor, dDrop, dDropM, dSetM, dSetF, fLst, fItems, mBm, dNewD, dPutO, dNext, dBreak, dCont, dAndV, dOrV, dNotV, dAnd, dOr, dNot, dB, dIf, dTup, dLst, dOp, dUn, dCallP, dCall, lfP, dCons, dNil, dVar, dC, dChain, dOpO, dCallO, dItems, dEnum, dRange1, dRange2, dLc, dLc2, dNoPart, dPart, dSl, dTru, gtName, gtTup, gtCons, gtNil, dYes, dGet, dGetO, dRevT, dRevL, lcBody, lcOut, lcIn, wipeD, List.map_cons, List.map_nil, List.cons_append, List.nil_append, List.length_cons, List.length_nil, Nat.reduceAdd, Nat.reduceSub, Nat.zero_add, Nat.sub_self, List.replicate_zero, List.replicate_succ, List.getElem?_cons_zero, List.getElem?_cons_succ, List.set_cons_zero, List.set_cons_succ, Option.some.injEq, Dv.Slot.d.injEq, Dv.Slot.own.injEq, Ob.lst.injEq, Ob.dic.injEq, exists_eq_left', exists_eq_left, exists_and_left, List.cons.injEq, and_true, true_and, and_assoc, D.raw.injEq, V.ty.injEq, D.bl.injEq, D.int.injEq, D.str.injEq, D.tup.injEq, D.lst.injEq, Bool.true_eq_false, Bool.false_eq_true, if_true, if_false, ite_true, ite_false, reduceIte, reduceCtorEq, false_or, or_false, itemsD_tup, itemsD_lst, itemsD_dic, exists_const, addP_int, addP_str, addP_tup, addP_lst, cmpP_int, intP_int, slD_tup, slD_lst, lenD_tup, lenD_lst, lenD_str]
        refine ⟨shp_row s 7, shp_row row 7, ?_⟩
        rw [eqD_row]
        cases q : decide (s = row) with
        | true => rw [q] at hk3; exact hk3
        | false => rw [q] at hk3; exact hk3
      rw [List.nil_append, List.length_map, count_filter, pA.count_eq]
      refine fun _ => ⟨_, rfl, rfl, true, rfl, (if_neg (by decide)).mpr ?_⟩
      refine ⟨row.map Vl.d, rfl, fun _ => ?_⟩
      refine for_mapg (pre := []) (fun _ ρ s => s = some p ∧ ∃ (x9 x10 x11 x12 x13 x14 x15 : Dv.Slot), ρ = [.d (.lst (ns.map .int)), .d (.raw (.ref p)), .d (.int (0 + (t : Nat))), .d (.int wd), .d (.lst (rs.map rowD)), .d (.lst (ss.map rowD)), .d (bagD A), .d (bagD B'), .d (rowD row), x9, x10, x11, x12, x13, x14, x15]) ⟨rfl, _, _, _, _, _, _, _, rfl⟩ ?_ ?_
      · rintro qs3 v rest3 er3 ρ s ⟨rfl, x9, x10, x11, x12, x13, x14, x15, rfl⟩ K3 hK3

        simp only [dRet, dRetN, dSeq, dIfS, dSet, dPar, dAug, dFor, dDrop, dDropM, dSetM, dSetF, fLst, fItems, mBm, dNewD, dPutO, dNext, dBreak, dCont, dAndV, dOrV, dNotV, dAnd, dOr, dNot, dB, dIf, dTup, dLst, dOp, dUn, dCallP, dCall, lfP, dCons, dNil, dVar, dC, dChain, dOpO, dCallO, dItems, dEnum, dRange1, dRange2, dLc, dLc2, dNoPart, dPart, dSl, dTru, gtName, gtTup, gtCons, gtNil, dYes, dGet, dGetO, dRevT, dRevL, lcBody, lcOut, lcIn, wipeD, List.map_cons, List.map_nil, List.cons_append, List.nil_append, List.length_cons, List.length_nil, Nat.reduceAdd, Nat.reduceSub, Nat.zero_add, Nat.sub_self, List.replicate_zero, List.replicate_succ, List.getElem?_cons_zero, List.getElem?_cons_succ, List.set_cons_zero, List.set_cons_succ, Option.some.injEq, Dv.Slot.d.injEq, Dv.Slot.own.injEq, Ob.lst.injEq, Ob.dic.injEq, exists_eq_left', exists_eq_left, exists_and_left, List.cons.injEq, and_true, true_and, and_assoc, D.raw.injEq, V.ty.injEq, D.bl.injEq, D.int.injEq, D.str.injEq, D.tup.injEq, D.lst.injEq, Bool.true_eq_false, Bool.false_eq_true, if_true, if_false, ite_true, ite_false, reduceIte, reduceCtorEq, false_or, or_false, itemsD_tup, itemsD_lst, itemsD_dic, exists_const, addP_int, addP_str, addP_tup, addP_lst, cmpP_int, intP_int, slD_tup, slD_lst, lenD_tup, lenD_lst, lenD_str]

        refine ⟨_, rfl, vl_raw v, v, rfl, _, rfl, sm_pl v 4, true, rfl, (if_neg (by decide)).mpr ⟨by decide, fun _ => ?_⟩⟩
        have e4 : ([D.non, .int 0, .str "a", v.d] : List D) = [Vl.non, .int 0, txV "a" (by decide +kernel), v].map Vl.d := rfl
        rw [e4]
        refine for_mapg (pre := []) (fun _ ρ s => s = some p ∧ ∃ (x10 x11 x12 x13 x14 x15 : Dv.Slot), ρ = [.d (.lst (ns.map .int)), .d (.raw (.ref p)), .d (.int (0 + (t : Nat))), .d (.int wd), .d (.lst (rs.map rowD)), .d (.lst (ss.map rowD)), .d (bagD A), .d (bagD B'), .d (rowD row), .d v.d, x10, x11, x12, x13, x14, x15]) ⟨rfl, _, _, _, _, _, _, rfl⟩ ?_ ?_
        · rintro qs4 u rest4 er4 ρ s ⟨rfl, x10, x11, x12, x13, x14, x15, rfl⟩ K4 hK4

          simp only [dRet, dRetN, dSeq, dIfS, dSet, dPar, dAug, dFor, dDrop, dDropM, dSetM, dSetF, fLst, fItems, mBm, dNewD, dPutO, dNext, dBreak, dCont, dAndV, dOrV, dNotV, dAnd, dOr, dNot, dB, dIf, dTup, dLst, dOp, dUn, dCallP, dCall, lfP, dCons, dNil, dVar, dC, dChain, dOpO, dCallO, dItems, dEnum, dRange1, dRange2, dLc, dLc2, dNoPart, dPart, dSl, dTru, gtName, gtTup, gtCons, gtNil, dYes, dGet, dGetO, dRevT, dRevL, lcBody, lcOut, lcIn, wipeD, List.map_cons, List.map_nil, List.cons_append, List.nil_append, List.length_cons, List.length_nil, Nat.reduceAdd, Nat.reduceSub, Nat.zero_add, Nat.sub_self, List.replicate_zero, List.replicate_succ, List.getElem?_cons_zero, List.getElem?_cons_succ, List.set_cons_zero, List.set_cons_succ, Option.some.injEq, Dv.Slot.d.injEq, Dv.Slot.own.injEq, Ob.lst.injEq, Ob.dic.injEq, exists_eq_left', exists_eq_left, exists_and_left, List.cons.injEq, and_true, true_and, and_assoc, D.raw.injEq, V.ty.injEq, D.bl.injEq, D.int.injEq, D.str.injEq, D.tup.injEq, D.lst.injEq, Bool.true_eq_false, Bool.false_eq_true, if_true, if_false, ite_true, ite_false, reduceIte, reduceCtorEq, false_or, or_false, itemsD_tup, itemsD_lst, itemsD_dic, exists_const, addP_int, addP_str, addP_tup, addP_lst, cmpP_int, intP_int, slD_tup, slD_lst, lenD_tup, lenD_lst, lenD_str]

          rw [isN_vl v, isN_vl u]
          by_cases h1 : v = .non
          · rw [decide_eq_true h1]
            refine (if_neg (by decide)).mpr ?_
            have e1 : sameV v u = .non := if_pos (.inl h1)
            have e2 : belowV v u = .non := if_pos (.inl h1)
            refine ⟨v, u, rfl, ?_⟩
            rw [e1]
            refine ⟨_, rfl, rfl, true, rfl, (if_neg (by decide)).mpr ⟨v, u, rfl, ?_⟩⟩
            rw [e2]
            exact ⟨_, rfl, rfl, true, rfl, (if_neg (by decide)).mpr (hK4 _ _ ⟨rfl, _, _, _, _, _, _, rfl⟩)⟩
          · rw [decide_eq_false h1]
            refine (if_pos rfl).mpr ?_
            by_cases h2 : u = .non
            · rw [decide_eq_true h2]
              have e1 : sameV v u = .non := if_pos (.inr h2)
              have e2 : belowV v u = .non := if_pos (.inr h2)
              refine ⟨v, u, rfl, ?_⟩
              rw [e1]
              refine (if_neg (by decide)).mpr ⟨_, rfl, rfl, true, rfl, (if_neg (by decide)).mpr ⟨v, u, rfl, ?_⟩⟩
              rw [e2]
              exact (if_neg (by decide)).mpr ⟨_, rfl, rfl, true, rfl, (if_neg (by decide)).mpr (hK4 _ _ ⟨rfl, _, _, _, _, _, _, rfl⟩)⟩
            · rw [decide_eq_false h2]
              have e1 : sameV v u = .bl (decide (v = u)) := if_neg fun z => z.elim h1 h2
              have e2 : belowV v u = .bl (ltD (plV v) (plV u)) := if_neg fun z => z.elim h1 h2
              refine ⟨v, u, rfl, ?_⟩
              rw [e1]
              refine (if_pos rfl).mpr ⟨shp_vl v 8, shp_vl u 8, ?_⟩
              rw [eqD_vl]
              refine ⟨_, rfl, rfl, true, rfl, (if_neg (by decide)).mpr ⟨v, u, rfl, ?_⟩⟩
              rw [e2]
              refine (if_pos rfl).mpr ⟨v, rfl, u, rfl, ?_⟩
              refine lt_pl v u ?_
              exact ⟨_, rfl, rfl, true, rfl, (if_neg (by decide)).mpr (hK4 _ _ ⟨rfl, _, _, _, _, _, _, rfl⟩)⟩
        · rintro ρ s ⟨rfl, x10, x11, x12, x13, x14, x15, rfl⟩
          exact hK3 _ _ ⟨rfl, _, _, _, _, _, _, _, rfl⟩
      · rintro ρ s ⟨rfl, x9, x10, x11, x12, x13, x14, x15, rfl⟩
        exact hK2 _ _ ⟨rfl, _, _, _, _, _, _, _, _, rfl⟩
    · rintro ρ s ⟨rfl, x8, x9, x10, x11, x12, x13, x14, x15, rfl⟩

      simp only [dRet, dRetN, dSeq, dIfS, dSet, dPar, dAug, dFor, dDrop, dDropM, dSetM, dSetF, fLst, fItems, mBm, dNewD, dPutO, dNext, dBreak, dCont, dAndV, dOrV, dNotV, dAnd, dOr, dNot, dB, dIf, dTup, dLst, dOp, dUn, dCallP, dCall, lfP, dCons, dNil, dVar, dC, dChain, dOpO, dCallO, dItems, dEnum, dRange1, dRange2, dLc, dLc2, dNoPart, dPart, dSl, dTru, gtName, gtTup, gtCons, gtNil, dYes, dGet, dGetO, dRevT, dRevL, lcBody, lcOut, lcIn, wipeD, List.map_cons, List.map_nil, List.cons_append, List.nil_append, List.length_cons, List.length_nil, Nat.reduceAdd, Nat.reduceSub, Nat.zero_add, Nat.sub_self, List.replicate_zero, List.replicate_succ, List.getElem?_cons_zero, List.getElem?_cons_succ, List.set_cons_zero, List.set_cons_succ, Option.some.injEq, Dv.Slot.d.injEq, Dv.Slot.own.injEq, Ob.lst.injEq, Ob.dic.injEq, exists_eq_left', exists_eq_left, exists_and_left, List.cons.injEq, and_true, true_and, and_assoc, D.raw.injEq, V.ty.injEq, D.bl.injEq, D.int.injEq, D.str.injEq, D.tup.injEq, D.lst.injEq, Bool.true_eq_false, Bool.false_eq_true, if_true, if_false, ite_true, ite_false, reduceIte, reduceCtorEq, false_or, or_false, itemsD_tup, itemsD_lst, itemsD_dic, exists_const, addP_int, addP_str, addP_tup, addP_lst, cmpP_int, intP_int, slD_tup, slD_lst, lenD_tup, lenD_lst, lenD_str]

      refine ⟨Nat.zero_le _, by decide, fun _ => ?_⟩
      have hsv2 : ∀ y ∈ ([D.non, .int 0, .int (-5), .bl true, .str "", .str "ab", .str "A", .str "a b", .tup [], .str "a1"] : List D), shp 8 y = true := by
        intro y hy
        simp only [List.mem_cons, List.mem_nil_iff, or_false] at hy
        rcases hy with rfl | rfl | rfl | rfl | rfl | rfl | rfl | rfl | rfl | rfl <;> first | exact shp_non _ | exact shp_int _ _ | exact shp_bl _ _ | rfl | (rw [shp_str]; decide +kernel)
      refine for_list (fun _ ρ s => s = some p ∧ ∃ (x8 x9 x10 x11 x12 x13 x14 x15 : Dv.Slot), ρ = [.d (.lst (ns.map .int)), .d (.raw (.ref p)), .d (.int (0 + (t : Nat))), .d (.int wd), .d (.lst (rs.map rowD)), .d (.lst (ss.map rowD)), .d (bagD A), .d (bagD B'), x8, x9, x10, x11, x12, x13, x14, x15]) ⟨rfl, _, _, _, _, _, _, _, _, rfl⟩ ?_ ?_
      · rintro qs5 z rest5 er5 ρ s ⟨rfl, x8, x9, x10, x11, x12, x13, x14, x15, rfl⟩ K5 hK5
        have hz := hsv2 z (by rw [er5]; simp)

        simp only [dRet, dRetN, dSeq, dIfS, dSet, dPar, dAug, dFor, dDrop, dDropM, dSetM, dSetF, fLst, fItems, mBm, dNewD, dPutO, dNext, dBreak, dCont, dAndV, dOrV, dNotV, dAnd, dOr, dNot, dB, dIf, dTup, dLst, dOp, dUn, dCallP, dCall, lfP, dCons, dNil, dVar, dC, dChain, dOpO, dCallO, dItems, dEnum, dRange1, dRange2, dLc, dLc2, dNoPart, dPart, dSl, dTru, gtName, gtTup, gtCons, gtNil, dYes, dGet, dGetO, dRevT, dRevL, lcBody, lcOut, lcIn, wipeD, List.map_cons, List.map_nil, List.cons_append, List.nil_append, List.length_cons, List.length_nil, Nat.reduceAdd, Nat.reduceSub, Nat.zero_add, Nat.sub_self, List.replicate_zero, List.replicate_succ, List.getElem?_cons_zero, List.getElem?_cons_succ, List.set_cons_zero, List.set_cons_succ, Option.some.injEq, Dv.Slot.d.injEq, Dv.Slot.own.injEq, Ob.lst.injEq, Ob.dic.injEq, exists_eq_left', exists_eq_left, exists_and_left, List.cons.injEq, and_true, true_and, and_assoc, D.raw.injEq, V.ty.injEq, D.bl.injEq, D.int.injEq, D.str.injEq, D.tup.injEq, D.lst.injEq, Bool.true_eq_false, Bool.false_eq_true, if_true, if_false, ite_true, ite_false, reduceIte, reduceCtorEq, false_or, or_false, itemsD_tup, itemsD_lst, itemsD_dic, exists_const, addP_int, addP_str, addP_tup, addP_lst, cmpP_int, intP_int, slD_tup, slD_lst, lenD_tup, lenD_lst, lenD_str]

        refine ⟨z, rfl, hz, z, rfl, hz, _, _, rfl, _, rfl, ?_⟩
        rw [beq_self_eq_true]
        exact (if_neg (by decide)).mpr (hK5 _ _ ⟨rfl, _, _, _, _, _, _, _, _, rfl⟩)
      · rintro ρ s ⟨rfl, x8, x9, x10, x11, x12, x13, x14, x15, rfl⟩

        simp only [dRet, dRetN, dSeq, dIfS, dSet, dPar, dAug, dFor, dDrop, dDropM, dSetM, dSetF, fLst, fItems, mBm, dNewD, dPutO, dNext, dBreak, dCont, dAndV, dOrV, dNotV, dAnd, dOr, dNot, dB, dIf, dTup, dLst, dOp, dUn, dCallP, dCall, lfP, dCons, dNil, dVar, dC, dChain, dOpO, dCallO, dItems, dEnum, dRange1, dRange2, dLc, dLc2, dNoPart, dPart, dSl, dTru, gtName, gtTup, gtCons, gtNil, dYes, dGet, dGetO, dRevT, dRevL, lcBody, lcOut, lcIn, wipeD, List.map_cons, List.map_nil, List.cons_append, List.nil_append, List.length_cons, List.length_nil, Nat.reduceAdd, Nat.reduceSub, Nat.zero_add, Nat.sub_self, List.replicate_zero, List.replicate_succ, List.getElem?_cons_zero, List.getElem?_cons_succ, List.set_cons_zero, List.set_cons_succ, Option.some.injEq, Dv.Slot.d.injEq, Dv.Slot.own.injEq, Ob.lst.injEq, Ob.dic.injEq, exists_eq_left', exists_eq_left, exists_and_left, List.cons.injEq, and_true, true_and, and_assoc, D.raw.injEq, V.ty.injEq, D.bl.injEq, D.int.injEq, D.str.injEq, D.tup.injEq, D.lst.injEq, Bool.true_eq_false, Bool.false_eq_true, if_true, if_false, ite_true, ite_false, reduceIte, reduceCtorEq, false_or, or_false, itemsD_tup, itemsD_lst, itemsD_dic, exists_const, addP_int, addP_str, addP_tup, addP_lst, cmpP_int, intP_int, slD_tup, slD_lst, lenD_tup, lenD_lst, lenD_str, bagD]

        have hA7 : ∀ d ∈ A.map rowD, shp 7 d = true := fun d hd => by
          obtain ⟨y, _, rfl⟩ := List.mem_map.mp hd
          exact shp_row y 6
        have hrl : ∀ r ∈ A, r.length ≤ 1000 := fun r hr => by
          have := (hrv r (pA.mem_iff.mp hr)).1
          omega
        refine ⟨by decide, (fun z => nomatch z), by omega, by omega, by decide, by decide, by rw [List.length_map]; omega, p, bagD A, rfl, rfl, bn_bag A 3 (by omega) hrl, fun d' hd' => ⟨by decide, fun _ => ?_⟩⟩
        have hz8 : ∀ y ∈ ([.tup (A.map rowD), .lst (A.map rowD), .tup (A.map rowD).reverse, .tup (A.map rowD ++ [.tup (List.replicate wd.toNat [.bl true]).flatten]), d', .non, .tup (rs.map rowD)] : List D), shp 8 y = true := by
          intro y hy
          simp only [List.mem_cons, List.mem_nil_iff, or_false] at hy
          rcases hy with rfl | rfl | rfl | rfl | rfl | rfl | rfl
          · rw [shp_tup, List.all_eq_true]; exact hA7
          · rw [shp_lst, List.all_eq_true]; exact hA7
          · rw [shp_tup, List.all_eq_true]; exact fun x hx => hA7 x (List.mem_reverse.mp hx)
          · rw [shp_tup, List.all_eq_true]
            intro x hx
            rcases List.mem_append.mp hx with hx | hx
            · exact hA7 x hx
            · rw [List.mem_singleton] at hx
              subst hx
              rw [shp_tup, List.all_eq_true]
              intro x hx
              obtain ⟨l, hl1, hl2⟩ := List.mem_flatten.mp hx
              have hl3 := (List.mem_replicate.mp hl1).2
              subst hl3
              rw [List.mem_singleton] at hl2
              subst hl2
              exact shp_bl _ _
          · exact shp_le hd' (by decide)
          · exact shp_non _
          · rw [shp_tup, List.all_eq_true]
            intro d hd
            obtain ⟨y, _, rfl⟩ := List.mem_map.mp hd
            exact shp_row y 6
        refine for_list (fun _ ρ s => s = some p ∧ ∃ (x8 x9 x10 x11 x12 x13 x14 x15 : Dv.Slot), ρ = [.d (.lst (ns.map .int)), .d (.raw (.ref p)), .d (.int (0 + (t : Nat))), .d (.int wd), .d (.lst (rs.map rowD)), .d (.lst (ss.map rowD)), .d ( .tup (A.map rowD)), .d ( .tup (B'.map rowD)), x8, x9, x10, x11, x12, x13, x14, x15]) ⟨rfl, _, _, _, _, _, _, _, _, rfl⟩ ?_ ?_
        · rintro qs5 z rest5 er5 ρ s ⟨rfl, x8, x9, x10, x11, x12, x13, x14, x15, rfl⟩ K5 hK5
          have hz := hz8 z (by rw [er5]; simp)

          simp only [dRet, dRetN, dSeq, dIfS, dSet, dPar, dAug, dFor, dDrop, dDropM, dSetM, dSetF, fLst, fItems, mBm, dNewD, dPutO, dNext, dBreak, dCont, dAndV, dOrV, dNotV, dAnd, dOr, dNot, dB, dIf, dTup, dLst, dOp, dUn, dCallP, dCall, lfP, dCons, dNil, dVar, dC, dChain, dOpO, dCallO, dItems, dEnum, dRange1, dRange2, dLc, dLc2, dNoPart, dPart, dSl, dTru, gtName, gtTup, gtCons, gtNil, dYes, dGet, dGetO, dRevT, dRevL, lcBody, lcOut, lcIn, wipeD, List.map_cons, List.map_nil, List.cons_append, List.nil_append, List.length_cons, List.length_nil, Nat.reduceAdd, Nat.reduceSub, Nat.zero_add, Nat.sub_self, List.replicate_zero, List.replicate_succ, List.getElem?_cons_zero, List.getElem?_cons_succ, List.set_cons_zero, List.set_cons_succ, Option.some.injEq, Dv.Slot.d.injEq, Dv.Slot.own.injEq, Ob.lst.injEq, Ob.dic.injEq, exists_eq_left', exists_eq_left, exists_and_left, List.cons.injEq, and_true, true_and, and_assoc, D.raw.injEq, V.ty.injEq, D.bl.injEq, D.int.injEq, D.str.injEq, D.tup.injEq, D.lst.injEq, Bool.true_eq_false, Bool.false_eq_true, if_true, if_false, ite_true, ite_false, reduceIte, reduceCtorEq, false_or, or_false, itemsD_tup, itemsD_lst, itemsD_dic, exists_const, addP_int, addP_str, addP_tup, addP_lst, cmpP_int, intP_int, slD_tup, slD_lst, lenD_tup, lenD_lst, lenD_str]

          refine ⟨z, wd, rfl, hz, fun b1 g1 => ⟨z, wd, rfl, hz, fun b2 g2 => ⟨b1, b2, rfl, _, rfl, ?_⟩⟩⟩
          have eb : b1 = b2 := Bool.eq_iff_iff.mpr (g1.trans g2.symm)
          subst eb
          rw [beq_self_eq_true]
          exact (if_neg (by decide)).mpr (hK5 _ _ ⟨rfl, _, _, _, _, _, _, _, _, rfl⟩)
        · rintro ρ s ⟨rfl, x8, x9, x10, x11, x12, x13, x14, x15, rfl⟩
          exact hK _ _ ⟨rfl, _, _, _, _, _, _, _, _, _, _, _, _, _, _, rfl⟩
  · rintro ρ s ⟨rfl, x2, x3, x4, x5, x6, x7, x8, x9, x10, x11, x12, x13, x14, x15, rfl⟩

    simp only [dRet, dRetN, dSeq, dIfS, dSet, dPar, dAug, dFor, dDrop, dDropM, dSetM, dSetF, fLst, fItems, mBm, dNewD, dPutO, dNext, dBreak, dCont, dAndV, dOrV, dNotV, dAnd, dOr, dNot, dB, dIf, dTup, dLst, dOp, dUn, dCallP, dCall, lfP, dCons, dNil, dVar, dC, dChain, dOpO, dCallO, dItems, dEnum, dRange1, dRange2, dLc, dLc2, dNoPart, dPart, dSl, dTru, gtName, gtTup, gtCons, gtNil, dYes, dGet, dGetO, dRevT, dRevL, lcBody, lcOut, lcIn, wipeD, List.map_cons, List.map_nil, List.cons_append, List.nil_append, List.length_cons, List.length_nil, Nat.reduceAdd, Nat.reduceSub, Nat.zero_add, Nat.sub_self, List.replicate_zero, List.replicate_succ, List.getElem?_cons_zero, List.getElem?_cons_succ, List.set_cons_zero, List.set_cons_succ, Option.some.injEq, Dv.Slot.d.injEq, Dv.Slot.own.injEq, Ob.lst.injEq, Ob.dic.injEq, exists_eq_left', exists_eq_left, exists_and_left, List.cons.injEq, and_true, true_and, and_assoc, D.raw.injEq, V.ty.injEq, D.bl.injEq, D.int.injEq, D.str.injEq, D.tup.injEq, D.lst.injEq, Bool.true_eq_false, Bool.false_eq_true, if_true, if_false, ite_true, ite_false, reduceIte, reduceCtorEq, false_or, or_false, itemsD_tup, itemsD_lst, itemsD_dic, exists_const, addP_int, addP_str, addP_tup, addP_lst, cmpP_int, intP_int, slD_tup, slD_lst, lenD_tup, lenD_lst, lenD_str]

    refine ⟨by decide, fun _ => ?_⟩
    refine for_list (fun _ ρ s => s = some p ∧ ∃ (x2 x3 x4 x5 x6 x7 x8 x9 x10 x11 x12 x13 x14 x15 : Dv.Slot), ρ = [.d (.lst (ns.map .int)), .d (.raw (.ref p)), x2, x3, x4, x5, x6, x7, x8, x9, x10, x11, x12, x13, x14, x15]) ⟨rfl, _, _, _, _, _, _, _, _, _, _, _, _, _, _, rfl⟩ ?_ ?_
    · rintro qs z rest er ρ s ⟨rfl, x2, x3, x4, x5, x6, x7, x8, x9, x10, x11, x12, x13, x14, x15, rfl⟩ K hK
      have htr : ∀ y ∈ ([D.bl true, .bl false, .non] : List D), isTr y = true := by
        intro y hy
        simp only [List.mem_cons, List.mem_nil_iff, or_false] at hy
        rcases hy with rfl | rfl | rfl <;> rfl
      have hz := htr z (by rw [er]; simp)

      simp only [dRet, dRetN, dSeq, dIfS, dSet, dPar, dAug, dFor, dDrop, dDropM, dSetM, dSetF, fLst, fItems, mBm, dNewD, dPutO, dNext, dBreak, dCont, dAndV, dOrV, dNotV, dAnd, dOr, dNot, dB, dIf, dTup, dLst, dOp, dUn, dCallP, dCall, lfP, dCons, dNil, dVar, dC, dChain, dOpO, dCallO, dItems, dEnum, dRange1, dRange2, dLc, dLc2, dNoPart, dPart, dSl, dTru, gtName, gtTup, gtCons, gtNil, dYes, dGet, dGetO, dRevT, dRevL, lcBody, lcOut, lcIn, wipeD, List.map_cons, List.map_nil, List.cons_append, List.nil_append, List.length_cons, List.length_nil, Nat.reduceAdd, Nat.reduceSub, Nat.zero_add, Nat.sub_self, List.replicate_zero, List.replicate_succ, List.getElem?_cons_zero, List.getElem?_cons_succ, List.set_cons_zero, List.set_cons_succ, Option.some.injEq, Dv.Slot.d.injEq, Dv.Slot.own.injEq, Ob.lst.injEq, Ob.dic.injEq, exists_eq_left', exists_eq_left, exists_and_left, List.cons.injEq, and_true, true_and, and_assoc, D.raw.injEq, V.ty.injEq, D.bl.injEq, D.int.injEq, D.str.injEq, D.tup.injEq, D.lst.injEq, Bool.true_eq_false, Bool.false_eq_true, if_true, if_false, ite_true, ite_false, reduceIte, reduceCtorEq, false_or, or_false, itemsD_tup, itemsD_lst, itemsD_dic, exists_const, addP_int, addP_str, addP_tup, addP_lst, cmpP_int, intP_int, slD_tup, slD_lst, lenD_tup, lenD_lst, lenD_str]

      refine ⟨z, rfl, hz, ?_⟩
      cases z with
      | non =>
        refine (if_pos rfl).mpr ⟨_, rfl, rfl, true, rfl, (if_neg (by decide)).mpr ⟨by decide, fun _ => ?_⟩⟩
        refine for_list (fun _ ρ s => s = some p ∧ ∃ (x2 x3 x5 x6 x7 x8 x9 x10 x11 x12 x13 x14 x15 : Dv.Slot), ρ = [.d (.lst (ns.map .int)), .d (.raw (.ref p)), x2, x3, .d (.non), x5, x6, x7, x8, x9, x10, x11, x12, x13, x14, x15]) ⟨rfl, _, _, _, _, _, _, _, _, _, _, _, _, _, rfl⟩ ?_ ?_
        · rintro qs6 y rest6 er6 ρ s ⟨rfl, x2, x3, x5, x6, x7, x8, x9, x10, x11, x12, x13, x14, x15, rfl⟩ K6 hK6
          have hy := htr y (by rw [er6]; simp)
          simp only [dRet, dRetN, dSeq, dIfS, dSet, dPar, dAug, dFor, dDrop, dDropM, dSetM, dSetF, fLst, fItems, mBm, dNewD, dPutO, dNext, dBreak, dCont, dAndV, dOrV, dNotV, dAnd, dOr, dNot, dB, dIf, dTup, dLst, dOp, dUn, dCallP, dCall, lfP, dCons, dNil, dVar, dC, dChain, dOpO, dCallO, dItems, dEnum, dRange1, dRange2, dLc, dLc2, dNoPart, dPart, dSl, dTru, gtName, gtTup, gtCons, gtNil, dYes, dGet, dGetO, dRevT, dRevL, lcBody, lcOut, lcIn, wipeD, List.map_cons, List.map_nil, List.cons_append, List.nil_append, List.length_cons, List.length_nil, Nat.reduceAdd, Nat.reduceSub, Nat.zero_add, Nat.sub_self, List.replicate_zero, List.replicate_succ, List.getElem?_cons_zero, List.getElem?_cons_succ, List.set_cons_zero, List.set_cons_succ, Option.some.injEq, Dv.Slot.d.injEq, Dv.Slot.own.injEq, Ob.lst.injEq, Ob.dic.injEq, exists_eq_left', exists_eq_left, exists_and_left, List.cons.injEq, and_true, true_and, and_assoc, D.raw.injEq, V.ty.injEq, D.bl.injEq, D.int.injEq, D.str.injEq, D.tup.injEq, D.lst.injEq, Bool.true_eq_false, Bool.false_eq_true, if_true, if_false, ite_true, ite_false, reduceIte, reduceCtorEq, false_or, or_false, itemsD_tup, itemsD_lst, itemsD_dic, exists_const, addP_int, addP_str, addP_tup, addP_lst, cmpP_int, intP_int, slD_tup, slD_lst, lenD_tup, lenD_lst, lenD_str]
          cases y with
          | non =>
            have hF : inD (.bl false) [.non, .non] = false := by simp [inD, eqD, D.py, PyData.eqv]
            have hN : inD (.non) [.non, .non] = true := by simp [inD, eqD, D.py, PyData.eqv]
            have hT : inD (.bl true) [.non, .non] = false := by simp [inD, eqD, D.py, PyData.eqv]
            have hs : ∀ x ∈ ([.non, .non] : List D), shp 8 x = true := by
              intro x hx
              simp only [List.mem_cons, List.mem_nil_iff, or_false] at hx
              rcases hx with rfl | rfl <;> first | exact shp_non _ | exact shp_bl _ _
            refine ⟨by decide, shp_bl _ _, hs, ?_⟩
            rw [hF]
            refine (if_neg Bool.false_ne_true).mpr ⟨by decide, shp_non _, hs, ?_⟩
            try rw [hN]
            refine (if_pos rfl).mpr ?_
            refine ⟨by decide, shp_bl _ _, hs, ?_⟩
            try rw [hT]
            refine (if_neg Bool.false_ne_true).mpr ⟨by decide, shp_non _, hs, ?_⟩
            try rw [hN]
            exact (if_pos rfl).mpr ⟨_, _, rfl, rfl, rfl, _, rfl, rfl, true, rfl, (if_neg (by decide)).mpr ⟨_, _, rfl, rfl, rfl, _, rfl, rfl, true, rfl, (if_neg (by decide)).mpr (hK6 _ _ ⟨rfl, _, _, _, _, _, _, _, _, _, _, _, _, _, rfl⟩)⟩⟩
          | bl c =>
            cases c with
            | true =>
              have hF : inD (.bl false) [.non, .bl true] = false := by simp [inD, eqD, D.py, PyData.eqv]
              have hN : inD (.non) [.non, .bl true] = true := by simp [inD, eqD, D.py, PyData.eqv]
              have hT : inD (.bl true) [.non, .bl true] = true := by simp [inD, eqD, D.py, PyData.eqv]
              have hs : ∀ x ∈ ([.non, .bl true] : List D), shp 8 x = true := by
                intro x hx
                simp only [List.mem_cons, List.mem_nil_iff, or_false] at hx
                rcases hx with rfl | rfl <;> first | exact shp_non _ | exact shp_bl _ _
              refine ⟨by decide, shp_bl _ _, hs, ?_⟩
              rw [hF]
              refine (if_neg Bool.false_ne_true).mpr ⟨by decide, shp_non _, hs, ?_⟩
              try rw [hN]
              refine (if_pos rfl).mpr ?_
              refine ⟨by decide, shp_bl _ _, hs, ?_⟩
              try rw [hT]
              exact (if_pos rfl).mpr ⟨_, _, rfl, rfl, rfl, _, rfl, rfl, true, rfl, (if_neg (by decide)).mpr ⟨_, _, rfl, rfl, rfl, _, rfl, rfl, true, rfl, (if_neg (by decide)).mpr (hK6 _ _ ⟨rfl, _, _, _, _, _, _, _, _, _, _, _, _, _, rfl⟩)⟩⟩
            | false =>
              have hF : inD (.bl false) [.non, .bl false] = true := by simp [inD, eqD, D.py, PyData.eqv]
              have hN : inD (.non) [.non, .bl false] = true := by simp [inD, eqD, D.py, PyData.eqv]
              have hT : inD (.bl true) [.non, .bl false] = false := by simp [inD, eqD, D.py, PyData.eqv]
              have hs : ∀ x ∈ ([.non, .bl false] : List D), shp 8 x = true := by
                intro x hx
                simp only [List.mem_cons, List.mem_nil_iff, or_false] at hx
                rcases hx with rfl | rfl <;> first | exact shp_non _ | exact shp_bl _ _
              refine ⟨by decide, shp_bl _ _, hs, ?_⟩
              rw [hF]
              refine (if_pos rfl).mpr ?_
              refine ⟨by decide, shp_bl _ _, hs, ?_⟩
              try rw [hT]
              refine (if_neg Bool.false_ne_true).mpr ⟨by decide, shp_non _, hs, ?_⟩
              try rw [hN]
              exact (if_pos rfl).mpr ⟨_, _, rfl, rfl, rfl, _, rfl, rfl, true, rfl, (if_neg (by decide)).mpr ⟨_, _, rfl, rfl, rfl, _, rfl, rfl, true, rfl, (if_neg (by decide)).mpr (hK6 _ _ ⟨rfl, _, _, _, _, _, _, _, _, _, _, _, _, _, rfl⟩)⟩⟩
          | _ => cases hy
        · rintro ρ s ⟨rfl, x2, x3, x5, x6, x7, x8, x9, x10, x11, x12, x13, x14, x15, rfl⟩
          exact hK _ _ ⟨rfl, _, _, _, _, _, _, _, _, _, _, _, _, _, _, rfl⟩
      | bl b =>
        refine (if_neg Bool.false_ne_true).mpr ⟨b, rfl, _, rfl, rfl, true, rfl, (if_neg (by decide)).mpr ⟨by decide, fun _ => ?_⟩⟩
        cases b with
        | true =>
          refine for_list (fun _ ρ s => s = some p ∧ ∃ (x2 x3 x5 x6 x7 x8 x9 x10 x11 x12 x13 x14 x15 : Dv.Slot), ρ = [.d (.lst (ns.map .int)), .d (.raw (.ref p)), x2, x3, .d (.bl true), x5, x6, x7, x8, x9, x10, x11, x12, x13, x14, x15]) ⟨rfl, _, _, _, _, _, _, _, _, _, _, _, _, _, rfl⟩ ?_ ?_
          · rintro qs6 y rest6 er6 ρ s ⟨rfl, x2, x3, x5, x6, x7, x8, x9, x10, x11, x12, x13, x14, x15, rfl⟩ K6 hK6
            have hy := htr y (by rw [er6]; simp)
            simp only [dRet, dRetN, dSeq, dIfS, dSet, dPar, dAug, dFor, dDrop, dDropM, dSetM, dSetF, fLst, fItems, mBm, dNewD, dPutO, dNext, dBreak, dCont, dAndV, dOrV, dNotV, dAnd, dOr, dNot, dB, dIf, dTup, dLst, dOp, dUn, dCallP, dCall, lfP, dCons, dNil, dVar, dC, dChain, dOpO, dCallO, dItems, dEnum, dRange1, dRange2, dLc, dLc2, dNoPart, dPart, dSl, dTru, gtName, gtTup, gtCons, gtNil, dYes, dGet, dGetO, dRevT, dRevL, lcBody, lcOut, lcIn, wipeD, List.map_cons, List.map_nil, List.cons_append, List.nil_append, List.length_cons, List.length_nil, Nat.reduceAdd, Nat.reduceSub, Nat.zero_add, Nat.sub_self, List.replicate_zero, List.replicate_succ, List.getElem?_cons_zero, List.getElem?_cons_succ, List.set_cons_zero, List.set_cons_succ, Option.some.injEq, Dv.Slot.d.injEq, Dv.Slot.own.injEq, Ob.lst.injEq, Ob.dic.injEq, exists_eq_left', exists_eq_left, exists_and_left, List.cons.injEq, and_true, true_and, and_assoc, D.raw.injEq, V.ty.injEq, D.bl.injEq, D.int.injEq, D.str.injEq, D.tup.injEq, D.lst.injEq, Bool.true_eq_false, Bool.false_eq_true, if_true, if_false, ite_true, ite_false, reduceIte, reduceCtorEq, false_or, or_false, itemsD_tup, itemsD_lst, itemsD_dic, exists_const, addP_int, addP_str, addP_tup, addP_lst, cmpP_int, intP_int, slD_tup, slD_lst, lenD_tup, lenD_lst, lenD_str]
            cases y with
            | non =>
              have hF : inD (.bl false) [.bl true, .non] = false := by simp [inD, eqD, D.py, PyData.eqv]
              have hN : inD (.non) [.bl true, .non] = true := by simp [inD, eqD, D.py, PyData.eqv]
              have hT : inD (.bl true) [.bl true, .non] = true := by simp [inD, eqD, D.py, PyData.eqv]
              have hs : ∀ x ∈ ([.bl true, .non] : List D), shp 8 x = true := by
                intro x hx
                simp only [List.mem_cons, List.mem_nil_iff, or_false] at hx
                rcases hx with rfl | rfl <;> first | exact shp_non _ | exact shp_bl _ _
              refine ⟨by decide, shp_bl _ _, hs, ?_⟩
              rw [hF]
              refine (if_neg Bool.false_ne_true).mpr ⟨by decide, shp_non _, hs, ?_⟩
              try rw [hN]
              refine (if_pos rfl).mpr ?_
              refine ⟨by decide, shp_bl _ _, hs, ?_⟩
              try rw [hT]
              exact (if_pos rfl).mpr ⟨_, _, rfl, rfl, rfl, _, rfl, rfl, true, rfl, (if_neg (by decide)).mpr ⟨_, _, rfl, rfl, rfl, _, rfl, rfl, true, rfl, (if_neg (by decide)).mpr (hK6 _ _ ⟨rfl, _, _, _, _, _, _, _, _, _, _, _, _, _, rfl⟩)⟩⟩
            | bl c =>
              cases c with
              | true =>
                have hF : inD (.bl false) [.bl true, .bl true] = false := by simp [inD, eqD, D.py, PyData.eqv]
                have hN : inD (.non) [.bl true, .bl true] = false := by simp [inD, eqD, D.py, PyData.eqv]
                have hT : inD (.bl true) [.bl true, .bl true] = true := by simp [inD, eqD, D.py, PyData.eqv]
                have hs : ∀ x ∈ ([.bl true, .bl true] : List D), shp 8 x = true := by
                  intro x hx
                  simp only [List.mem_cons, List.mem_nil_iff, or_false] at hx
                  rcases hx with rfl | rfl <;> first | exact shp_non _ | exact shp_bl _ _
                refine ⟨by decide, shp_bl _ _, hs, ?_⟩
                rw [hF]
                refine (if_neg Bool.false_ne_true).mpr ⟨by decide, shp_non _, hs, ?_⟩
                try rw [hN]
                refine (if_neg Bool.false_ne_true).mpr ?_
                refine ⟨by decide, shp_bl _ _, hs, ?_⟩
                try rw [hT]
                exact (if_pos rfl).mpr ⟨_, _, rfl, rfl, rfl, _, rfl, rfl, true, rfl, (if_neg (by decide)).mpr ⟨_, _, rfl, rfl, rfl, _, rfl, rfl, true, rfl, (if_neg (by decide)).mpr (hK6 _ _ ⟨rfl, _, _, _, _, _, _, _, _, _, _, _, _, _, rfl⟩)⟩⟩
              | false =>
                have hF : inD (.bl false) [.bl true, .bl false] = true := by simp [inD, eqD, D.py, PyData.eqv]
                have hN : inD (.non) [.bl true, .bl false] = false := by simp [inD, eqD, D.py, PyData.eqv]
                have hT : inD (.bl true) [.bl true, .bl false] = true := by simp [inD, eqD, D.py, PyData.eqv]
                have hs : ∀ x ∈ ([.bl true, .bl false] : List D), shp 8 x = true := by
                  intro x hx
                  simp only [List.mem_cons, List.mem_nil_iff, or_false] at hx
                  rcases hx with rfl | rfl <;> first | exact shp_non _ | exact shp_bl _ _
                refine ⟨by decide, shp_bl _ _, hs, ?_⟩
                rw [hF]
                refine (if_pos rfl).mpr ?_
                refine ⟨by decide, shp_bl _ _, hs, ?_⟩
                try rw [hT]
                exact (if_pos rfl).mpr ⟨_, _, rfl, rfl, rfl, _, rfl, rfl, true, rfl, (if_neg (by decide)).mpr ⟨_, _, rfl, rfl, rfl, _, rfl, rfl, true, rfl, (if_neg (by decide)).mpr (hK6 _ _ ⟨rfl, _, _, _, _, _, _, _, _, _, _, _, _, _, rfl⟩)⟩⟩
            | _ => cases hy
          · rintro ρ s ⟨rfl, x2, x3, x5, x6, x7, x8, x9, x10, x11, x12, x13, x14, x15, rfl⟩
            exact hK _ _ ⟨rfl, _, _, _, _, _, _, _, _, _, _, _, _, _, _, rfl⟩
        | false =>
          refine for_list (fun _ ρ s => s = some p ∧ ∃ (x2 x3 x5 x6 x7 x8 x9 x10 x11 x12 x13 x14 x15 : Dv.Slot), ρ = [.d (.lst (ns.map .int)), .d (.raw (.ref p)), x2, x3, .d (.bl false), x5, x6, x7, x8, x9, x10, x11, x12, x13, x14, x15]) ⟨rfl, _, _, _, _, _, _, _, _, _, _, _, _, _, rfl⟩ ?_ ?_
          · rintro qs6 y rest6 er6 ρ s ⟨rfl, x2, x3, x5, x6, x7, x8, x9, x10, x11, x12, x13, x14, x15, rfl⟩ K6 hK6
            have hy := htr y (by rw [er6]; simp)
            simp only [dRet, dRetN, dSeq, dIfS, dSet, dPar, dAug, dFor, dDrop, dDropM, dSetM, dSetF, fLst, fItems, mBm, dNewD, dPutO, dNext, dBreak, dCont, dAndV, dOrV, dNotV, dAnd, dOr, dNot, dB, dIf, dTup, dLst, dOp, dUn, dCallP, dCall, lfP, dCons, dNil, dVar, dC, dChain, dOpO, dCallO, dItems, dEnum, dRange1, dRange2, dLc, dLc2, dNoPart, dPart, dSl, dTru, gtName, gtTup, gtCons, gtNil, dYes, dGet, dGetO, dRevT, dRevL, lcBody, lcOut, lcIn, wipeD, List.map_cons, List.map_nil, List.cons_append, List.nil_append, List.length_cons, List.length_nil, Nat.reduceAdd, Nat.reduceSub, Nat.zero_add, Nat.sub_self, List.replicate_zero, List.replicate_succ, List.getElem?_cons_zero, List.getElem?_cons_succ, List.set_cons_zero, List.set_cons_succ, Option.some.injEq, Dv.Slot.d.injEq, Dv.Slot.own.injEq, Ob.lst.injEq, Ob.dic.injEq, exists_eq_left', exists_eq_left, exists_and_left, List.cons.injEq, and_true, true_and, and_assoc, D.raw.injEq, V.ty.injEq, D.bl.injEq, D.int.injEq, D.str.injEq, D.tup.injEq, D.lst.injEq, Bool.true_eq_false, Bool.false_eq_true, if_true, if_false, ite_true, ite_false, reduceIte, reduceCtorEq, false_or, or_false, itemsD_tup, itemsD_lst, itemsD_dic, exists_const, addP_int, addP_str, addP_tup, addP_lst, cmpP_int, intP_int, slD_tup, slD_lst, lenD_tup, lenD_lst, lenD_str]
            cases y with
            | non =>
              have hF : inD (.bl false) [.bl false, .non] = true := by simp [inD, eqD, D.py, PyData.eqv]
              have hN : inD (.non) [.bl false, .non] = true := by simp [inD, eqD, D.py, PyData.eqv]
              have hT : inD (.bl true) [.bl false, .non] = false := by simp [inD, eqD, D.py, PyData.eqv]
              have hs : ∀ x ∈ ([.bl false, .non] : List D), shp 8 x = true := by
                intro x hx
                simp only [List.mem_cons, List.mem_nil_iff, or_false] at hx
                rcases hx with rfl | rfl <;> first | exact shp_non _ | exact shp_bl _ _
              refine ⟨by decide, shp_bl _ _, hs, ?_⟩
              rw [hF]
              refine (if_pos rfl).mpr ?_
              refine ⟨by decide, shp_bl _ _, hs, ?_⟩
              try rw [hT]
              refine (if_neg Bool.false_ne_true).mpr ⟨by decide, shp_non _, hs, ?_⟩
              try rw [hN]
              exact (if_pos rfl).mpr ⟨_, _, rfl, rfl, rfl, _, rfl, rfl, true, rfl, (if_neg (by decide)).mpr ⟨_, _, rfl, rfl, rfl, _, rfl, rfl, true, rfl, (if_neg (by decide)).mpr (hK6 _ _ ⟨rfl, _, _, _, _, _, _, _, _, _, _, _, _, _, rfl⟩)⟩⟩
            | bl c =>
              cases c with
              | true =>
                have hF : inD (.bl false) [.bl false, .bl true] = true := by simp [inD, eqD, D.py, PyData.eqv]
                have hN : inD (.non) [.bl false, .bl true] = false := by simp [inD, eqD, D.py, PyData.eqv]
                have hT : inD (.bl true) [.bl false, .bl true] = true := by simp [inD, eqD, D.py, PyData.eqv]
                have hs : ∀ x ∈ ([.bl false, .bl true] : List D), shp 8 x = true := by
                  intro x hx
                  simp only [List.mem_cons, List.mem_nil_iff, or_false] at hx
                  rcases hx with rfl | rfl <;> first | exact shp_non _ | exact shp_bl _ _
                refine ⟨by decide, shp_bl _ _, hs, ?_⟩
                rw [hF]
                refine (if_pos rfl).mpr ?_
                refine ⟨by decide, shp_bl _ _, hs, ?_⟩
                try rw [hT]
                exact (if_pos rfl).mpr ⟨_, _, rfl, rfl, rfl, _, rfl, rfl, true, rfl, (if_neg (by decide)).mpr ⟨_, _, rfl, rfl, rfl, _, rfl, rfl, true, rfl, (if_neg (by decide)).mpr (hK6 _ _ ⟨rfl, _, _, _, _, _, _, _, _, _, _, _, _, _, rfl⟩)⟩⟩
              | false =>
                have hF : inD (.bl false) [.bl false, .bl false] = true := by simp [inD, eqD, D.py, PyData.eqv]
                have hN : inD (.non) [.bl false, .bl false] = false := by simp [inD, eqD, D.py, PyData.eqv]
                have hT : inD (.bl true) [.bl false, .bl false] = false := by simp [inD, eqD, D.py, PyData.eqv]
                have hs : ∀ x ∈ ([.bl false, .bl false] : List D), shp 8 x = true := by
                  intro x hx
                  simp only [List.mem_cons, List.mem_nil_iff, or_false] at hx
                  rcases hx with rfl | rfl <;> first | exact shp_non _ | exact shp_bl _ _
                refine ⟨by decide, shp_bl _ _, hs, ?_⟩
                rw [hF]
                refine (if_pos rfl).mpr ?_
                refine ⟨by decide, shp_bl _ _, hs, ?_⟩
                try rw [hT]
                refine (if_neg Bool.false_ne_true).mpr ⟨by decide, shp_non _, hs, ?_⟩
                try rw [hN]
                exact (if_neg Bool.false_ne_true).mpr ⟨_, _, rfl, rfl, rfl, _, rfl, rfl, true, rfl, (if_neg (by decide)).mpr ⟨_, _, rfl, rfl, rfl, _, rfl, rfl, true, rfl, (if_neg (by decide)).mpr (hK6 _ _ ⟨rfl, _, _, _, _, _, _, _, _, _, _, _, _, _, rfl⟩)⟩⟩
            | _ => cases hy
          · rintro ρ s ⟨rfl, x2, x3, x5, x6, x7, x8, x9, x10, x11, x12, x13, x14, x15, rfl⟩
            exact hK _ _ ⟨rfl, _, _, _, _, _, _, _, _, _, _, _, _, _, _, rfl⟩
      | _ => cases hz
    · rintro ρ s ⟨rfl, x2, x3, x4, x5, x6, x7, x8, x9, x10, x11, x12, x13, x14, x15, rfl⟩
      exact h _
end
end K00

set_option Elab.async false
set_option linter.all false
set_option maxRecDepth 100000
set_option maxHeartbeats 2000000
namespace K00
open PySem L2 PyProof.Rows Dv Bg
theorem rpa_of_ints {c : Cn} {H : Hp} : ∀ ns : List Int, RpA c H (ns.map V.int) (ns.map D.int)
  | [] => .nil
  | n :: ns => .cons (.int n) (rpa_of_ints ns)

theorem all_mk {l : PySem.W.OpenLaw} {w : World} {K : PySem.W.Frag} {h : Heap} {mg : Str → Option Value} {fa : Addr} (X : K.In h) (G : h.Ns mainGlobals mg) (hfa : mg "law" = some (.ref fa))
    {od0 an0 : Option Addr} {sl0 : Array (Option Value)} {oc0 kV0 dc0 pm0 cd0 ct0 : Value} {f0 : Addr} (a0 : PySem.W.nsIn K mainGlobals "is_number" = some (some (.ref f0))) (l0 : K.lookup f0 = some ⟨oc0, od0, .func (PySem.W.fnOf "is_number" "is_number" (defArgs s_is_number) (defBody s_is_number) (defScope s_is_number) .none kV0 dc0 pm0 an0 cd0 ct0), sl0⟩) (c0 : PySem.W.codeIn K cd0 "is_number" = true) (k0 : PySem.W.keepIn K (.ref f0) = true)
    {od1 an1 : Option Addr} {sl1 : Array (Option Value)} {oc1 kV1 dc1 pm1 cd1 ct1 : Value} {f1 : Addr} (a1 : PySem.W.nsIn K mainGlobals "is_text" = some (some (.ref f1))) (l1 : K.lookup f1 = some ⟨oc1, od1, .func (PySem.W.fnOf "is_text" "is_text" (defArgs s_is_text) (defBody s_is_text) (defScope s_is_text) .none kV1 dc1 pm1 an1 cd1 ct1), sl1⟩) (c1 : PySem.W.codeIn K cd1 "is_text" = true) (k1 : PySem.W.keepIn K (.ref f1) = true)
    {od2 an2 : Option Addr} {sl2 : Array (Option Value)} {oc2 kV2 dc2 pm2 cd2 ct2 : Value} {f2 : Addr} (a2 : PySem.W.nsIn K mainGlobals "is_value" = some (some (.ref f2))) (l2 : K.lookup f2 = some ⟨oc2, od2, .func (PySem.W.fnOf "is_value" "is_value" (defArgs s_is_value) (defBody s_is_value) (defScope s_is_value) .none kV2 dc2 pm2 an2 cd2 ct2), sl2⟩) (c2 : PySem.W.codeIn K cd2 "is_value" = true) (k2 : PySem.W.keepIn K (.ref f2) = true)
    {od3 an3 : Option Addr} {sl3 : Array (Option Value)} {oc3 kV3 dc3 pm3 cd3 ct3 : Value} {f3 : Addr} (a3 : PySem.W.nsIn K mainGlobals "place_in_order" = some (some (.ref f3))) (l3 : K.lookup f3 = some ⟨oc3, od3, .func (PySem.W.fnOf "place_in_order" "place_in_order" (defArgs s_place_in_order) (defBody s_place_in_order) (defScope s_place_in_order) .none kV3 dc3 pm3 an3 cd3 ct3), sl3⟩) (c3 : PySem.W.codeIn K cd3 "place_in_order" = true) (k3 : PySem.W.keepIn K (.ref f3) = true)
    {od4 an4 : Option Addr} {sl4 : Array (Option Value)} {oc4 kV4 dc4 pm4 cd4 ct4 : Value} {f4 : Addr} (a4 : PySem.W.nsIn K mainGlobals "row_order" = some (some (.ref f4))) (l4 : K.lookup f4 = some ⟨oc4, od4, .func (PySem.W.fnOf "row_order" "row_order" (defArgs s_row_order) (defBody s_row_order) (defScope s_row_order) .none kV4 dc4 pm4 an4 cd4 ct4), sl4⟩) (c4 : PySem.W.codeIn K cd4 "row_order" = true) (k4 : PySem.W.keepIn K (.ref f4) = true)
    {od5 an5 : Option Addr} {sl5 : Array (Option Value)} {oc5 kV5 dc5 pm5 cd5 ct5 : Value} {f5 : Addr} (a5 : PySem.W.nsIn K mainGlobals "bag" = some (some (.ref f5))) (l5 : K.lookup f5 = some ⟨oc5, od5, .func (PySem.W.fnOf "bag" "bag" (defArgs s_bag) (defBody s_bag) (defScope s_bag) .none kV5 dc5 pm5 an5 cd5 ct5), sl5⟩) (c5 : PySem.W.codeIn K cd5 "bag" = true) (k5 : PySem.W.keepIn K (.ref f5) = true)
    {od6 an6 : Option Addr} {sl6 : Array (Option Value)} {oc6 kV6 dc6 pm6 cd6 ct6 : Value} {f6 : Addr} (a6 : PySem.W.nsIn K mainGlobals "is_row" = some (some (.ref f6))) (l6 : K.lookup f6 = some ⟨oc6, od6, .func (PySem.W.fnOf "is_row" "is_row" (defArgs s_is_row) (defBody s_is_row) (defScope s_is_row) .none kV6 dc6 pm6 an6 cd6 ct6), sl6⟩) (c6 : PySem.W.codeIn K cd6 "is_row" = true) (k6 : PySem.W.keepIn K (.ref f6) = true)
    {od7 an7 : Option Addr} {sl7 : Array (Option Value)} {oc7 kV7 dc7 pm7 cd7 ct7 : Value} {f7 : Addr} (a7 : PySem.W.nsIn K mainGlobals "is_bag" = some (some (.ref f7))) (l7 : K.lookup f7 = some ⟨oc7, od7, .func (PySem.W.fnOf "is_bag" "is_bag" (defArgs s_is_bag) (defBody s_is_bag) (defScope s_is_bag) .none kV7 dc7 pm7 an7 cd7 ct7), sl7⟩) (c7 : PySem.W.codeIn K cd7 "is_bag" = true) (k7 : PySem.W.keepIn K (.ref f7) = true)
    {od8 an8 : Option Addr} {sl8 : Array (Option Value)} {oc8 kV8 dc8 pm8 cd8 ct8 : Value} {f8 : Addr} (a8 : PySem.W.nsIn K mainGlobals "count_in" = some (some (.ref f8))) (l8 : K.lookup f8 = some ⟨oc8, od8, .func (PySem.W.fnOf "count_in" "count_in" (defArgs s_count_in) (defBody s_count_in) (defScope s_count_in) .none kV8 dc8 pm8 an8 cd8 ct8), sl8⟩) (c8 : PySem.W.codeIn K cd8 "count_in" = true) (k8 : PySem.W.keepIn K (.ref f8) = true)
    {od9 an9 : Option Addr} {sl9 : Array (Option Value)} {oc9 kV9 dc9 pm9 cd9 ct9 : Value} {f9 : Addr} (a9 : PySem.W.nsIn K mainGlobals "counts_of" = some (some (.ref f9))) (l9 : K.lookup f9 = some ⟨oc9, od9, .func (PySem.W.fnOf "counts_of" "counts_of" (defArgs s_counts_of) (defBody s_counts_of) (defScope s_counts_of) .none kV9 dc9 pm9 an9 cd9 ct9), sl9⟩) (c9 : PySem.W.codeIn K cd9 "counts_of" = true) (k9 : PySem.W.keepIn K (.ref f9) = true)
    {od10 an10 : Option Addr} {sl10 : Array (Option Value)} {oc10 kV10 dc10 pm10 cd10 ct10 : Value} {f10 : Addr} (a10 : PySem.W.nsIn K mainGlobals "bag_of" = some (some (.ref f10))) (l10 : K.lookup f10 = some ⟨oc10, od10, .func (PySem.W.fnOf "bag_of" "bag_of" (defArgs s_bag_of) (defBody s_bag_of) (defScope s_bag_of) .none kV10 dc10 pm10 an10 cd10 ct10), sl10⟩) (c10 : PySem.W.codeIn K cd10 "bag_of" = true) (k10 : PySem.W.keepIn K (.ref f10) = true)
    {od11 an11 : Option Addr} {sl11 : Array (Option Value)} {oc11 kV11 dc11 pm11 cd11 ct11 : Value} {f11 : Addr} (a11 : PySem.W.nsIn K mainGlobals "both_bags" = some (some (.ref f11))) (l11 : K.lookup f11 = some ⟨oc11, od11, .func (PySem.W.fnOf "both_bags" "both_bags" (defArgs s_both_bags) (defBody s_both_bags) (defScope s_both_bags) .none kV11 dc11 pm11 an11 cd11 ct11), sl11⟩) (c11 : PySem.W.codeIn K cd11 "both_bags" = true) (k11 : PySem.W.keepIn K (.ref f11) = true)
    {od12 an12 : Option Addr} {sl12 : Array (Option Value)} {oc12 kV12 dc12 pm12 cd12 ct12 : Value} {f12 : Addr} (a12 : PySem.W.nsIn K mainGlobals "less_bags" = some (some (.ref f12))) (l12 : K.lookup f12 = some ⟨oc12, od12, .func (PySem.W.fnOf "less_bags" "less_bags" (defArgs s_less_bags) (defBody s_less_bags) (defScope s_less_bags) .none kV12 dc12 pm12 an12 cd12 ct12), sl12⟩) (c12 : PySem.W.codeIn K cd12 "less_bags" = true) (k12 : PySem.W.keepIn K (.ref f12) = true)
    {od13 an13 : Option Addr} {sl13 : Array (Option Value)} {oc13 kV13 dc13 pm13 cd13 ct13 : Value} {f13 : Addr} (a13 : PySem.W.nsIn K mainGlobals "common_bags" = some (some (.ref f13))) (l13 : K.lookup f13 = some ⟨oc13, od13, .func (PySem.W.fnOf "common_bags" "common_bags" (defArgs s_common_bags) (defBody s_common_bags) (defScope s_common_bags) .none kV13 dc13 pm13 an13 cd13 ct13), sl13⟩) (c13 : PySem.W.codeIn K cd13 "common_bags" = true) (k13 : PySem.W.keepIn K (.ref f13) = true)
    {od14 an14 : Option Addr} {sl14 : Array (Option Value)} {oc14 kV14 dc14 pm14 cd14 ct14 : Value} {f14 : Addr} (a14 : PySem.W.nsIn K mainGlobals "once_bag" = some (some (.ref f14))) (l14 : K.lookup f14 = some ⟨oc14, od14, .func (PySem.W.fnOf "once_bag" "once_bag" (defArgs s_once_bag) (defBody s_once_bag) (defScope s_once_bag) .none kV14 dc14 pm14 an14 cd14 ct14), sl14⟩) (c14 : PySem.W.codeIn K cd14 "once_bag" = true) (k14 : PySem.W.keepIn K (.ref f14) = true)
    {od15 an15 : Option Addr} {sl15 : Array (Option Value)} {oc15 kV15 dc15 pm15 cd15 ct15 : Value} {f15 : Addr} (a15 : PySem.W.nsIn K mainGlobals "same" = some (some (.ref f15))) (l15 : K.lookup f15 = some ⟨oc15, od15, .func (PySem.W.fnOf "same" "same" (defArgs s_same) (defBody s_same) (defScope s_same) .none kV15 dc15 pm15 an15 cd15 ct15), sl15⟩) (c15 : PySem.W.codeIn K cd15 "same" = true) (k15 : PySem.W.keepIn K (.ref f15) = true)
    {od16 an16 : Option Addr} {sl16 : Array (Option Value)} {oc16 kV16 dc16 pm16 cd16 ct16 : Value} {f16 : Addr} (a16 : PySem.W.nsIn K mainGlobals "below" = some (some (.ref f16))) (l16 : K.lookup f16 = some ⟨oc16, od16, .func (PySem.W.fnOf "below" "below" (defArgs s_below) (defBody s_below) (defScope s_below) .none kV16 dc16 pm16 an16 cd16 ct16), sl16⟩) (c16 : PySem.W.codeIn K cd16 "below" = true) (k16 : PySem.W.keepIn K (.ref f16) = true)
    {od17 an17 : Option Addr} {sl17 : Array (Option Value)} {oc17 kV17 dc17 pm17 cd17 ct17 : Value} {f17 : Addr} (a17 : PySem.W.nsIn K mainGlobals "no" = some (some (.ref f17))) (l17 : K.lookup f17 = some ⟨oc17, od17, .func (PySem.W.fnOf "no" "no" (defArgs s_no) (defBody s_no) (defScope s_no) .none kV17 dc17 pm17 an17 cd17 ct17), sl17⟩) (c17 : PySem.W.codeIn K cd17 "no" = true) (k17 : PySem.W.keepIn K (.ref f17) = true)
    {od18 an18 : Option Addr} {sl18 : Array (Option Value)} {oc18 kV18 dc18 pm18 cd18 ct18 : Value} {f18 : Addr} (a18 : PySem.W.nsIn K mainGlobals "both" = some (some (.ref f18))) (l18 : K.lookup f18 = some ⟨oc18, od18, .func (PySem.W.fnOf "both" "both" (defArgs s_both) (defBody s_both) (defScope s_both) .none kV18 dc18 pm18 an18 cd18 ct18), sl18⟩) (c18 : PySem.W.codeIn K cd18 "both" = true) (k18 : PySem.W.keepIn K (.ref f18) = true)
    {od19 an19 : Option Addr} {sl19 : Array (Option Value)} {oc19 kV19 dc19 pm19 cd19 ct19 : Value} {f19 : Addr} (a19 : PySem.W.nsIn K mainGlobals "either" = some (some (.ref f19))) (l19 : K.lookup f19 = some ⟨oc19, od19, .func (PySem.W.fnOf "either" "either" (defArgs s_either) (defBody s_either) (defScope s_either) .none kV19 dc19 pm19 an19 cd19 ct19), sl19⟩) (c19 : PySem.W.codeIn K cd19 "either" = true) (k19 : PySem.W.keepIn K (.ref f19) = true)
    {od20 an20 : Option Addr} {sl20 : Array (Option Value)} {oc20 kV20 dc20 pm20 cd20 ct20 : Value} {f20 : Addr} (a20 : PySem.W.nsIn K mainGlobals "_law_says" = some (some (.ref f20))) (l20 : K.lookup f20 = some ⟨oc20, od20, .func (PySem.W.fnOf "_law_says" "_law_says" (defArgs s__law_says) (defBody s__law_says) (defScope s__law_says) .none kV20 dc20 pm20 an20 cd20 ct20), sl20⟩) (c20 : PySem.W.codeIn K cd20 "_law_says" = true) (k20 : PySem.W.keepIn K (.ref f20) = true)
    {od21 an21 : Option Addr} {sl21 : Array (Option Value)} {oc21 kV21 dc21 pm21 cd21 ct21 : Value} {f21 : Addr} (a21 : PySem.W.nsIn K mainGlobals "_law_same" = some (some (.ref f21))) (l21 : K.lookup f21 = some ⟨oc21, od21, .func (PySem.W.fnOf "_law_same" "_law_same" (defArgs s__law_same) (defBody s__law_same) (defScope s__law_same) .none kV21 dc21 pm21 an21 cd21 ct21), sl21⟩) (c21 : PySem.W.codeIn K cd21 "_law_same" = true) (k21 : PySem.W.keepIn K (.ref f21) = true)
    {od22 an22 : Option Addr} {sl22 : Array (Option Value)} {oc22 kV22 dc22 pm22 cd22 ct22 : Value} {f22 : Addr} (a22 : PySem.W.nsIn K mainGlobals "_law_place" = some (some (.ref f22))) (l22 : K.lookup f22 = some ⟨oc22, od22, .func (PySem.W.fnOf "_law_place" "_law_place" (defArgs s__law_place) (defBody s__law_place) (defScope s__law_place) .none kV22 dc22 pm22 an22 cd22 ct22), sl22⟩) (c22 : PySem.W.codeIn K cd22 "_law_place" = true) (k22 : PySem.W.keepIn K (.ref f22) = true)
    {od23 an23 : Option Addr} {sl23 : Array (Option Value)} {oc23 kV23 dc23 pm23 cd23 ct23 : Value} {f23 : Addr} (a23 : PySem.W.nsIn K mainGlobals "_law_bag" = some (some (.ref f23))) (l23 : K.lookup f23 = some ⟨oc23, od23, .func (PySem.W.fnOf "_law_bag" "_law_bag" (defArgs s__law_bag) (defBody s__law_bag) (defScope s__law_bag) .none kV23 dc23 pm23 an23 cd23 ct23), sl23⟩) (c23 : PySem.W.codeIn K cd23 "_law_bag" = true) (k23 : PySem.W.keepIn K (.ref f23) = true)
    {od24 an24 : Option Addr} {sl24 : Array (Option Value)} {oc24 kV24 dc24 pm24 cd24 ct24 : Value} {f24 : Addr} (a24 : PySem.W.nsIn K mainGlobals "_law_bag_less" = some (some (.ref f24))) (l24 : K.lookup f24 = some ⟨oc24, od24, .func (PySem.W.fnOf "_law_bag_less" "_law_bag_less" (defArgs s__law_bag_less) (defBody s__law_bag_less) (defScope s__law_bag_less) .none kV24 dc24 pm24 an24 cd24 ct24), sl24⟩) (c24 : PySem.W.codeIn K cd24 "_law_bag_less" = true) (k24 : PySem.W.keepIn K (.ref f24) = true)
    {od25 an25 : Option Addr} {sl25 : Array (Option Value)} {oc25 kV25 dc25 pm25 cd25 ct25 : Value} {f25 : Addr} (a25 : PySem.W.nsIn K mainGlobals "_law_is_number" = some (some (.ref f25))) (l25 : K.lookup f25 = some ⟨oc25, od25, .func (PySem.W.fnOf "_law_is_number" "_law_is_number" (defArgs s__law_is_number) (defBody s__law_is_number) (defScope s__law_is_number) .none kV25 dc25 pm25 an25 cd25 ct25), sl25⟩) (c25 : PySem.W.codeIn K cd25 "_law_is_number" = true) (k25 : PySem.W.keepIn K (.ref f25) = true)
    {od26 an26 : Option Addr} {sl26 : Array (Option Value)} {oc26 kV26 dc26 pm26 cd26 ct26 : Value} {f26 : Addr} (a26 : PySem.W.nsIn K mainGlobals "_law_is_value" = some (some (.ref f26))) (l26 : K.lookup f26 = some ⟨oc26, od26, .func (PySem.W.fnOf "_law_is_value" "_law_is_value" (defArgs s__law_is_value) (defBody s__law_is_value) (defScope s__law_is_value) .none kV26 dc26 pm26 an26 cd26 ct26), sl26⟩) (c26 : PySem.W.codeIn K cd26 "_law_is_value" = true) (k26 : PySem.W.keepIn K (.ref f26) = true)
    {od27 an27 : Option Addr} {sl27 : Array (Option Value)} {oc27 kV27 dc27 pm27 cd27 ct27 : Value} {f27 : Addr} (a27 : PySem.W.nsIn K mainGlobals "_law_is_bag" = some (some (.ref f27))) (l27 : K.lookup f27 = some ⟨oc27, od27, .func (PySem.W.fnOf "_law_is_bag" "_law_is_bag" (defArgs s__law_is_bag) (defBody s__law_is_bag) (defScope s__law_is_bag) .none kV27 dc27 pm27 an27 cd27 ct27), sl27⟩) (c27 : PySem.W.codeIn K cd27 "_law_is_bag" = true) (k27 : PySem.W.keepIn K (.ref f27) = true)
    {od28 an28 : Option Addr} {sl28 : Array (Option Value)} {oc28 kV28 dc28 pm28 cd28 ct28 : Value} {f28 : Addr} (a28 : PySem.W.nsIn K mainGlobals "_law_draws" = some (some (.ref f28))) (l28 : K.lookup f28 = some ⟨oc28, od28, .func (PySem.W.fnOf "_law_draws" "_law_draws" (defArgs s__law_draws) (defBody s__law_draws) (defScope s__law_draws) .none kV28 dc28 pm28 an28 cd28 ct28), sl28⟩) (c28 : PySem.W.codeIn K cd28 "_law_draws" = true) (k28 : PySem.W.keepIn K (.ref f28) = true)
    {od29 an29 : Option Addr} {sl29 : Array (Option Value)} {oc29 kV29 dc29 pm29 cd29 ct29 : Value} {f29 : Addr} (a29 : PySem.W.nsIn K mainGlobals "_law_next" = some (some (.ref f29))) (l29 : K.lookup f29 = some ⟨oc29, od29, .func (PySem.W.fnOf "_law_next" "_law_next" (defArgs s__law_next) (defBody s__law_next) (defScope s__law_next) .none kV29 dc29 pm29 an29 cd29 ct29), sl29⟩) (c29 : PySem.W.codeIn K cd29 "_law_next" = true) (k29 : PySem.W.keepIn K (.ref f29) = true)
    {od30 an30 : Option Addr} {sl30 : Array (Option Value)} {oc30 kV30 dc30 pm30 cd30 ct30 : Value} {f30 : Addr} (a30 : PySem.W.nsIn K mainGlobals "_law_pick" = some (some (.ref f30))) (l30 : K.lookup f30 = some ⟨oc30, od30, .func (PySem.W.fnOf "_law_pick" "_law_pick" (defArgs s__law_pick) (defBody s__law_pick) (defScope s__law_pick) .none kV30 dc30 pm30 an30 cd30 ct30), sl30⟩) (c30 : PySem.W.codeIn K cd30 "_law_pick" = true) (k30 : PySem.W.keepIn K (.ref f30) = true)
    {od31 an31 : Option Addr} {sl31 : Array (Option Value)} {oc31 kV31 dc31 pm31 cd31 ct31 : Value} {f31 : Addr} (a31 : PySem.W.nsIn K mainGlobals "_law_bent" = some (some (.ref f31))) (l31 : K.lookup f31 = some ⟨oc31, od31, .func (PySem.W.fnOf "_law_bent" "_law_bent" (defArgs s__law_bent) (defBody s__law_bent) (defScope s__law_bent) .none kV31 dc31 pm31 an31 cd31 ct31), sl31⟩) (c31 : PySem.W.codeIn K cd31 "_law_bent" = true) (k31 : PySem.W.keepIn K (.ref f31) = true)
    {od32 an32 : Option Addr} {sl32 : Array (Option Value)} {oc32 kV32 dc32 pm32 cd32 ct32 : Value} {f32 : Addr} (a32 : PySem.W.nsIn K mainGlobals "_law_rows" = some (some (.ref f32))) (l32 : K.lookup f32 = some ⟨oc32, od32, .func (PySem.W.fnOf "_law_rows" "_law_rows" (defArgs s__law_rows) (defBody s__law_rows) (defScope s__law_rows) .none kV32 dc32 pm32 an32 cd32 ct32), sl32⟩) (c32 : PySem.W.codeIn K cd32 "_law_rows" = true) (k32 : PySem.W.keepIn K (.ref f32) = true)
    {od33 an33 : Option Addr} {sl33 : Array (Option Value)} {oc33 kV33 dc33 pm33 cd33 ct33 : Value} {f33 : Addr} (a33 : PySem.W.nsIn K mainGlobals "law" = some (some (.ref f33))) (l33 : K.lookup f33 = some ⟨oc33, od33, .func (PySem.W.fnOf "law" "law" (defArgs s_law) (defBody s_law) (defScope s_law) .none kV33 dc33 pm33 an33 cd33 ct33), sl33⟩) (c33 : PySem.W.codeIn K cd33 "law" = true) (k33 : PySem.W.keepIn K (.ref f33) = true)
    (z_int : PySem.W.nsIn K mainGlobals "int" = some none)
    (z_str : PySem.W.nsIn K mainGlobals "str" = some none)
    (z_bool : PySem.W.nsIn K mainGlobals "bool" = some none)
    (z_tuple : PySem.W.nsIn K mainGlobals "tuple" = some none)
    (z_list : PySem.W.nsIn K mainGlobals "list" = some none)
    (z_dict : PySem.W.nsIn K mainGlobals "dict" = some none)
    (z_isinstance : PySem.W.nsIn K mainGlobals "isinstance" = some none)
    (z_len : PySem.W.nsIn K mainGlobals "len" = some none)
    (z_all : PySem.W.nsIn K mainGlobals "all" = some none)
    (z_sorted : PySem.W.nsIn K mainGlobals "sorted" = some none)
    (z_max : PySem.W.nsIn K mainGlobals "max" = some none)
    (z_min : PySem.W.nsIn K mainGlobals "min" = some none)
    (z_abs : PySem.W.nsIn K mainGlobals "abs" = some none)
    (z_range : PySem.W.nsIn K mainGlobals "range" = some none)
    (z_enumerate : PySem.W.nsIn K mainGlobals "enumerate" = some none) :
    ∃ fd : FuncData, (∀ (s : Shared) (v : Value), BindsTo s fd ⟨[v], []⟩ [("script", v)]) ∧ ∀ base : Heap, K.In base → base.Ns mainGlobals mg → FnOk l.prog w K mg base CX0 10 fa fd ["script"] (spD ⟨l.prog, w, K⟩ (Wd K) 1 o_law) := by
  have e := hfa.symm.trans (PySem.W.mg_of X G a33)
  cases e
  have T : Bn mg := ⟨PySem.W.mg_none_of X G z_int, PySem.W.mg_none_of X G z_str, PySem.W.mg_none_of X G z_bool, PySem.W.mg_none_of X G z_tuple, PySem.W.mg_none_of X G z_list, PySem.W.mg_none_of X G z_dict, PySem.W.mg_none_of X G z_isinstance, PySem.W.mg_none_of X G z_len, PySem.W.mg_none_of X G z_all, PySem.W.mg_none_of X G z_sorted, PySem.W.mg_none_of X G z_max, PySem.W.mg_none_of X G z_min, PySem.W.mg_none_of X G z_abs, PySem.W.mg_none_of X G z_range, PySem.W.mg_none_of X G z_enumerate⟩
  have F0 := fun_mk (st := s_is_number) l0 c0 k0
  have D_is_number : Def K mg "is_number" s_is_number ["thing"] := ⟨_, _, F0, PySem.W.mg_of X G a0, F0.binds (ps := ["thing"]) fun _ _ _ _ _ _ us hl => match us, hl with | [_], _ => rfl⟩
  have F1 := fun_mk (st := s_is_text) l1 c1 k1
  have D_is_text : Def K mg "is_text" s_is_text ["thing"] := ⟨_, _, F1, PySem.W.mg_of X G a1, F1.binds (ps := ["thing"]) fun _ _ _ _ _ _ us hl => match us, hl with | [_], _ => rfl⟩
  have F2 := fun_mk (st := s_is_value) l2 c2 k2
  have D_is_value : Def K mg "is_value" s_is_value ["thing"] := ⟨_, _, F2, PySem.W.mg_of X G a2, F2.binds (ps := ["thing"]) fun _ _ _ _ _ _ us hl => match us, hl with | [_], _ => rfl⟩
  have F3 := fun_mk (st := s_place_in_order) l3 c3 k3
  have D_place_in_order : Def K mg "place_in_order" s_place_in_order ["value"] := ⟨_, _, F3, PySem.W.mg_of X G a3, F3.binds (ps := ["value"]) fun _ _ _ _ _ _ us hl => match us, hl with | [_], _ => rfl⟩
  have F4 := fun_mk (st := s_row_order) l4 c4 k4
  have D_row_order : Def K mg "row_order" s_row_order ["row"] := ⟨_, _, F4, PySem.W.mg_of X G a4, F4.binds (ps := ["row"]) fun _ _ _ _ _ _ us hl => match us, hl with | [_], _ => rfl⟩
  have F5 := fun_mk (st := s_bag) l5 c5 k5
  have D_bag : Def K mg "bag" s_bag ["rows"] := ⟨_, _, F5, PySem.W.mg_of X G a5, F5.binds (ps := ["rows"]) fun _ _ _ _ _ _ us hl => match us, hl with | [_], _ => rfl⟩
  have F6 := fun_mk (st := s_is_row) l6 c6 k6
  have D_is_row : Def K mg "is_row" s_is_row ["thing", "width"] := ⟨_, _, F6, PySem.W.mg_of X G a6, F6.binds (ps := ["thing", "width"]) fun _ _ _ _ _ _ us hl => match us, hl with | [_, _], _ => rfl⟩
  have F7 := fun_mk (st := s_is_bag) l7 c7 k7
  have D_is_bag : Def K mg "is_bag" s_is_bag ["thing", "width"] := ⟨_, _, F7, PySem.W.mg_of X G a7, F7.binds (ps := ["thing", "width"]) fun _ _ _ _ _ _ us hl => match us, hl with | [_, _], _ => rfl⟩
  have F8 := fun_mk (st := s_count_in) l8 c8 k8
  have D_count_in : Def K mg "count_in" s_count_in ["rows", "row"] := ⟨_, _, F8, PySem.W.mg_of X G a8, F8.binds (ps := ["rows", "row"]) fun _ _ _ _ _ _ us hl => match us, hl with | [_, _], _ => rfl⟩
  have F9 := fun_mk (st := s_counts_of) l9 c9 k9
  have D_counts_of : Def K mg "counts_of" s_counts_of ["rows"] := ⟨_, _, F9, PySem.W.mg_of X G a9, F9.binds (ps := ["rows"]) fun _ _ _ _ _ _ us hl => match us, hl with | [_], _ => rfl⟩
  have F10 := fun_mk (st := s_bag_of) l10 c10 k10
  have D_bag_of : Def K mg "bag_of" s_bag_of ["counts"] := ⟨_, _, F10, PySem.W.mg_of X G a10, F10.binds (ps := ["counts"]) fun _ _ _ _ _ _ us hl => match us, hl with | [_], _ => rfl⟩
  have F11 := fun_mk (st := s_both_bags) l11 c11 k11
  have D_both_bags : Def K mg "both_bags" s_both_bags ["one", "other"] := ⟨_, _, F11, PySem.W.mg_of X G a11, F11.binds (ps := ["one", "other"]) fun _ _ _ _ _ _ us hl => match us, hl with | [_, _], _ => rfl⟩
  have F12 := fun_mk (st := s_less_bags) l12 c12 k12
  have D_less_bags : Def K mg "less_bags" s_less_bags ["one", "other"] := ⟨_, _, F12, PySem.W.mg_of X G a12, F12.binds (ps := ["one", "other"]) fun _ _ _ _ _ _ us hl => match us, hl with | [_, _], _ => rfl⟩
  have F13 := fun_mk (st := s_common_bags) l13 c13 k13
  have D_common_bags : Def K mg "common_bags" s_common_bags ["one", "other"] := ⟨_, _, F13, PySem.W.mg_of X G a13, F13.binds (ps := ["one", "other"]) fun _ _ _ _ _ _ us hl => match us, hl with | [_, _], _ => rfl⟩
  have F14 := fun_mk (st := s_once_bag) l14 c14 k14
  have D_once_bag : Def K mg "once_bag" s_once_bag ["one"] := ⟨_, _, F14, PySem.W.mg_of X G a14, F14.binds (ps := ["one"]) fun _ _ _ _ _ _ us hl => match us, hl with | [_], _ => rfl⟩
  have F15 := fun_mk (st := s_same) l15 c15 k15
  have D_same : Def K mg "same" s_same ["a", "b"] := ⟨_, _, F15, PySem.W.mg_of X G a15, F15.binds (ps := ["a", "b"]) fun _ _ _ _ _ _ us hl => match us, hl with | [_, _], _ => rfl⟩
  have F16 := fun_mk (st := s_below) l16 c16 k16
  have D_below : Def K mg "below" s_below ["a", "b"] := ⟨_, _, F16, PySem.W.mg_of X G a16, F16.binds (ps := ["a", "b"]) fun _ _ _ _ _ _ us hl => match us, hl with | [_, _], _ => rfl⟩
  have F17 := fun_mk (st := s_no) l17 c17 k17
  have D_no : Def K mg "no" s_no ["truth"] := ⟨_, _, F17, PySem.W.mg_of X G a17, F17.binds (ps := ["truth"]) fun _ _ _ _ _ _ us hl => match us, hl with | [_], _ => rfl⟩
  have F18 := fun_mk (st := s_both) l18 c18 k18
  have D_both : Def K mg "both" s_both ["one", "other"] := ⟨_, _, F18, PySem.W.mg_of X G a18, F18.binds (ps := ["one", "other"]) fun _ _ _ _ _ _ us hl => match us, hl with | [_, _], _ => rfl⟩
  have F19 := fun_mk (st := s_either) l19 c19 k19
  have D_either : Def K mg "either" s_either ["one", "other"] := ⟨_, _, F19, PySem.W.mg_of X G a19, F19.binds (ps := ["one", "other"]) fun _ _ _ _ _ _ us hl => match us, hl with | [_, _], _ => rfl⟩
  have F20 := fun_mk (st := s__law_says) l20 c20 k20
  have D__law_says : Def K mg "_law_says" s__law_says ["seen", "due"] := ⟨_, _, F20, PySem.W.mg_of X G a20, F20.binds (ps := ["seen", "due"]) fun _ _ _ _ _ _ us hl => match us, hl with | [_, _], _ => rfl⟩
  have F21 := fun_mk (st := s__law_same) l21 c21 k21
  have D__law_same : Def K mg "_law_same" s__law_same ["seen", "due"] := ⟨_, _, F21, PySem.W.mg_of X G a21, F21.binds (ps := ["seen", "due"]) fun _ _ _ _ _ _ us hl => match us, hl with | [_, _], _ => rfl⟩
  have F22 := fun_mk (st := s__law_place) l22 c22 k22
  have D__law_place : Def K mg "_law_place" s__law_place ["value"] := ⟨_, _, F22, PySem.W.mg_of X G a22, F22.binds (ps := ["value"]) fun _ _ _ _ _ _ us hl => match us, hl with | [_], _ => rfl⟩
  have F23 := fun_mk (st := s__law_bag) l23 c23 k23
  have D__law_bag : Def K mg "_law_bag" s__law_bag ["rows"] := ⟨_, _, F23, PySem.W.mg_of X G a23, F23.binds (ps := ["rows"]) fun _ _ _ _ _ _ us hl => match us, hl with | [_], _ => rfl⟩
  have F24 := fun_mk (st := s__law_bag_less) l24 c24 k24
  have D__law_bag_less : Def K mg "_law_bag_less" s__law_bag_less ["one", "other"] := ⟨_, _, F24, PySem.W.mg_of X G a24, F24.binds (ps := ["one", "other"]) fun _ _ _ _ _ _ us hl => match us, hl with | [_, _], _ => rfl⟩
  have F25 := fun_mk (st := s__law_is_number) l25 c25 k25
  have D__law_is_number : Def K mg "_law_is_number" s__law_is_number ["thing"] := ⟨_, _, F25, PySem.W.mg_of X G a25, F25.binds (ps := ["thing"]) fun _ _ _ _ _ _ us hl => match us, hl with | [_], _ => rfl⟩
  have F26 := fun_mk (st := s__law_is_value) l26 c26 k26
  have D__law_is_value : Def K mg "_law_is_value" s__law_is_value ["value"] := ⟨_, _, F26, PySem.W.mg_of X G a26, F26.binds (ps := ["value"]) fun _ _ _ _ _ _ us hl => match us, hl with | [_], _ => rfl⟩
  have F27 := fun_mk (st := s__law_is_bag) l27 c27 k27
  have D__law_is_bag : Def K mg "_law_is_bag" s__law_is_bag ["value", "width"] := ⟨_, _, F27, PySem.W.mg_of X G a27, F27.binds (ps := ["value", "width"]) fun _ _ _ _ _ _ us hl => match us, hl with | [_, _], _ => rfl⟩
  have F28 := fun_mk (st := s__law_draws) l28 c28 k28
  have D__law_draws : Def K mg "_law_draws" s__law_draws ["script", "many"] := ⟨_, _, F28, PySem.W.mg_of X G a28, F28.binds (ps := ["script", "many"]) fun _ _ _ _ _ _ us hl => match us, hl with | [_, _], _ => rfl⟩
  have F29 := fun_mk (st := s__law_next) l29 c29 k29
  have D__law_next : Def K mg "_law_next" s__law_next ["w", "many"] := ⟨_, _, F29, PySem.W.mg_of X G a29, F29.binds (ps := ["w", "many"]) fun _ _ _ _ _ _ us hl => match us, hl with | [_, _], _ => rfl⟩
  have F30 := fun_mk (st := s__law_pick) l30 c30 k30
  have D__law_pick : Def K mg "_law_pick" s__law_pick ["w", "rows"] := ⟨_, _, F30, PySem.W.mg_of X G a30, F30.binds (ps := ["w", "rows"]) fun _ _ _ _ _ _ us hl => match us, hl with | [_, _], _ => rfl⟩
  have F31 := fun_mk (st := s__law_bent) l31 c31 k31
  have D__law_bent : Def K mg "_law_bent" s__law_bent ["w", "value"] := ⟨_, _, F31, PySem.W.mg_of X G a31, F31.binds (ps := ["w", "value"]) fun _ _ _ _ _ _ us hl => match us, hl with | [_, _], _ => rfl⟩
  have F32 := fun_mk (st := s__law_rows) l32 c32 k32
  have D__law_rows : Def K mg "_law_rows" s__law_rows ["w", "width"] := ⟨_, _, F32, PySem.W.mg_of X G a32, F32.binds (ps := ["w", "width"]) fun _ _ _ _ _ _ us hl => match us, hl with | [_, _], _ => rfl⟩
  refine ⟨PySem.W.fnOf "law" "law" (defArgs s_law) (defBody s_law) (defScope s_law) .none kV33 dc33 pm33 an33 cd33 ct33, fun s v => .of_eq rfl, fun base _ _ => ?_⟩
  have C_is_number := ok_is_number (P := l.prog) (w := w) (base := base) T D_is_number 
  have C_is_text := ok_is_text (P := l.prog) (w := w) (base := base) T D_is_text 
  have C_is_value := ok_is_value (P := l.prog) (w := w) (base := base) T D_is_value C_is_number C_is_text
  have C_place_in_order := ok_place_in_order (P := l.prog) (w := w) (base := base) T D_place_in_order C_is_number
  have C_row_order := ok_row_order (P := l.prog) (w := w) (base := base) T D_row_order C_place_in_order
  have C_bag := ok_bag (P := l.prog) (w := w) (base := base) T D_bag C_row_order
  have C_is_row := ok_is_row (P := l.prog) (w := w) (base := base) T D_is_row C_is_value
  have C_is_bag := ok_is_bag (P := l.prog) (w := w) (base := base) T D_is_bag C_is_row C_bag
  have C_count_in := ok_count_in (P := l.prog) (w := w) (base := base) T D_count_in 
  have C_counts_of := ok_counts_of (P := l.prog) (w := w) (base := base) T D_counts_of 
  have C_bag_of := ok_bag_of (P := l.prog) (w := w) (base := base) T D_bag_of C_bag
  have C_both_bags := ok_both_bags (P := l.prog) (w := w) (base := base) T D_both_bags C_bag
  have C_less_bags := ok_less_bags (P := l.prog) (w := w) (base := base) T D_less_bags C_counts_of C_bag_of
  have C_common_bags := ok_common_bags (P := l.prog) (w := w) (base := base) T D_common_bags C_counts_of C_bag_of
  have C_once_bag := ok_once_bag (P := l.prog) (w := w) (base := base) T D_once_bag C_counts_of C_bag
  have C_same := ok_same (P := l.prog) (w := w) (base := base) T D_same 
  have C_below := ok_below (P := l.prog) (w := w) (base := base) T D_below C_place_in_order
  have C_no := ok_no (P := l.prog) (w := w) (base := base) T D_no 
  have C_both := ok_both (P := l.prog) (w := w) (base := base) T D_both 
  have C_either := ok_either (P := l.prog) (w := w) (base := base) T D_either 
  have C__law_says := ok__law_says (P := l.prog) (w := w) (base := base) T D__law_says 
  have C__law_same := ok__law_same (P := l.prog) (w := w) (base := base) T D__law_same 
  have C__law_place := ok__law_place (P := l.prog) (w := w) (base := base) T D__law_place 
  have C__law_bag := ok__law_bag (P := l.prog) (w := w) (base := base) T D__law_bag C__law_place
  have C__law_bag_less := ok__law_bag_less (P := l.prog) (w := w) (base := base) T D__law_bag_less C__law_bag
  have C__law_is_number := ok__law_is_number (P := l.prog) (w := w) (base := base) T D__law_is_number 
  have C__law_is_value := ok__law_is_value (P := l.prog) (w := w) (base := base) T D__law_is_value C__law_is_number
  have C__law_is_bag := ok__law_is_bag (P := l.prog) (w := w) (base := base) T D__law_is_bag C__law_is_value C__law_bag
  have C__law_draws := ok__law_draws (P := l.prog) (w := w) (base := base) T D__law_draws 
  have C__law_next := ok__law_next (P := l.prog) (w := w) (base := base) T D__law_next 
  have C__law_pick := ok__law_pick (P := l.prog) (w := w) (base := base) T D__law_pick C__law_next
  have C__law_bent := ok_bent_n (P := l.prog) (w := w) (base := base) T D__law_bent C__law_next C__law_pick 6 (by decide)
  have C__law_rows := ok__law_rows (P := l.prog) (w := w) (base := base) T D__law_rows C__law_next C__law_pick
  exact ok_law T (fun_mk (st := s_law) l33 c33 k33) C_bag C_count_in C_both_bags C_less_bags C_common_bags C_once_bag C_same C_below C_no C_both C_either C_place_in_order C_is_value C_is_bag C__law_says C__law_same C__law_place C__law_bag C__law_bag_less C__law_is_value C__law_is_bag C__law_draws C__law_next C__law_rows C__law_bent
theorem walk {l : PySem.W.OpenLaw} {q : Program} {loose : List Str} {XP : (Str → Option Value) → Heap → Prop} {YP : World → Heap → Prop} {d : DefRec} {K : Params → PySem.W.Frag} (hn : l.most = some 63) (hdf : d.params.defaults = [])
    (hY : ∀ (w : World) (h : Heap), YP w h → (K w.params).In h)
    (F : ∀ (w : World) (mg : Str → Option Value) (fa : Addr) (h : Heap), (K w.params).In h → h.Ns mainGlobals mg → mg d.name = some (.ref fa) →
      ∃ fd : FuncData, (∀ (s : Shared) (u : Value), BindsTo s fd ⟨[u], []⟩ [("script", u)]) ∧ ∀ base : Heap, (K w.params).In base → base.Ns mainGlobals mg → FnOk l.prog w (K w.params) mg base CX0 10 fa fd ["script"] (spD ⟨l.prog, w, K w.params⟩ (Wd (K w.params)) 1 o_law)) :
    PySem.W.WalkO q loose XP YP l.row.toRowW d [] (fun f vs => PySem.call f vs) :=
  L2.walk_of (n := 63) (k := 10) (x := "script") (CX := fun _ => CX0) (sp := fun w => spD ⟨l.prog, w, K w.params⟩ (Wd (K w.params)) 1 o_law) hn (by decide) hdf ⟨rfl, by decide, by decide⟩ hY F
    (fun w H a ns hl _ hS => ⟨H, none, [.lst (ns.map .int)], fun d _ => d = .bl true, (fun p e => nomatch e), Same.refl _, .cons (.lst (by rw [List.length_map]; have := sizeLine_eq; omega) hS (rpa_of_ints ns)) .nil, rfl, ⟨ns, rfl, rfl, hl, fun _ => rfl⟩, fun d s' Hs' H' v hd g r => by
      subst hd
      exact r.blE⟩) fun _ _ _ _ _ z => z
end K00

open PySem PySem.W PyProof.Rows in
set_option maxRecDepth 100000 in
set_option maxHeartbeats 0 in
theorem PySem.Challenge.cw_storesagree_k00_values_and_bags_holds : PySem.Challenge.rw_storesagree_k00_values_and_bags.Holds := by
  w_on; o_law; k_head; (case hw => w_witness2)
  k_fill
  refine K00.walk (l := PySem.Challenge.rw_storesagree_k00_values_and_bags) rfl rfl (fun w h Y => PySem.W.kIn_of Y) ?F
  case F =>
    intro w mg fa h KX G hmg
    refine' K00.all_mk KX G hmg ?a0 ?l0 ?c0 ?k0 ?a1 ?l1 ?c1 ?k1 ?a2 ?l2 ?c2 ?k2 ?a3 ?l3 ?c3 ?k3 ?a4 ?l4 ?c4 ?k4 ?a5 ?l5 ?c5 ?k5 ?a6 ?l6 ?c6 ?k6 ?a7 ?l7 ?c7 ?k7 ?a8 ?l8 ?c8 ?k8 ?a9 ?l9 ?c9 ?k9 ?a10 ?l10 ?c10 ?k10 ?a11 ?l11 ?c11 ?k11 ?a12 ?l12 ?c12 ?k12 ?a13 ?l13 ?c13 ?k13 ?a14 ?l14 ?c14 ?k14 ?a15 ?l15 ?c15 ?k15 ?a16 ?l16 ?c16 ?k16 ?a17 ?l17 ?c17 ?k17 ?a18 ?l18 ?c18 ?k18 ?a19 ?l19 ?c19 ?k19 ?a20 ?l20 ?c20 ?k20 ?a21 ?l21 ?c21 ?k21 ?a22 ?l22 ?c22 ?k22 ?a23 ?l23 ?c23 ?k23 ?a24 ?l24 ?c24 ?k24 ?a25 ?l25 ?c25 ?k25 ?a26 ?l26 ?c26 ?k26 ?a27 ?l27 ?c27 ?k27 ?a28 ?l28 ?c28 ?k28 ?a29 ?l29 ?c29 ?k29 ?a30 ?l30 ?c30 ?k30 ?a31 ?l31 ?c31 ?k31 ?a32 ?l32 ?c32 ?k32 ?a33 ?l33 ?c33 ?k33 ?z_int ?z_str ?z_bool ?z_tuple ?z_list ?z_dict ?z_isinstance ?z_len ?z_all ?z_sorted ?z_max ?z_min ?z_abs ?z_range ?z_enumerate
    (case a0 => k_is)
    (case l0 => k_is)
    (case c0 => k_is)
    (case k0 => k_is)
    (case a1 => k_is)
    (case l1 => k_is)
    (case c1 => k_is)
    (case k1 => k_is)
    (case a2 => k_is)
    (case l2 => k_is)
    (case c2 => k_is)
    (case k2 => k_is)
    (case a3 => k_is)
    (case l3 => k_is)
    (case c3 => k_is)
    (case k3 => k_is)
    (case a4 => k_is)
    (case l4 => k_is)
    (case c4 => k_is)
    (case k4 => k_is)
    (case a5 => k_is)
    (case l5 => k_is)
    (case c5 => k_is)
    (case k5 => k_is)
    (case a6 => k_is)
    (case l6 => k_is)
    (case c6 => k_is)
    (case k6 => k_is)
    (case a7 => k_is)
    (case l7 => k_is)
    (case c7 => k_is)
    (case k7 => k_is)
    (case a8 => k_is)
    (case l8 => k_is)
    (case c8 => k_is)
    (case k8 => k_is)
    (case a9 => k_is)
    (case l9 => k_is)
    (case c9 => k_is)
    (case k9 => k_is)
    (case a10 => k_is)
    (case l10 => k_is)
    (case c10 => k_is)
    (case k10 => k_is)
    (case a11 => k_is)
    (case l11 => k_is)
    (case c11 => k_is)
    (case k11 => k_is)
    (case a12 => k_is)
    (case l12 => k_is)
    (case c12 => k_is)
    (case k12 => k_is)
    (case a13 => k_is)
    (case l13 => k_is)
    (case c13 => k_is)
    (case k13 => k_is)
    (case a14 => k_is)
    (case l14 => k_is)
    (case c14 => k_is)
    (case k14 => k_is)
    (case a15 => k_is)
    (case l15 => k_is)
    (case c15 => k_is)
    (case k15 => k_is)
    (case a16 => k_is)
    (case l16 => k_is)
    (case c16 => k_is)
    (case k16 => k_is)
    (case a17 => k_is)
    (case l17 => k_is)
    (case c17 => k_is)
    (case k17 => k_is)
    (case a18 => k_is)
    (case l18 => k_is)
    (case c18 => k_is)
    (case k18 => k_is)
    (case a19 => k_is)
    (case l19 => k_is)
    (case c19 => k_is)
    (case k19 => k_is)
    (case a20 => k_is)
    (case l20 => k_is)
    (case c20 => k_is)
    (case k20 => k_is)
    (case a21 => k_is)
    (case l21 => k_is)
    (case c21 => k_is)
    (case k21 => k_is)
    (case a22 => k_is)
    (case l22 => k_is)
    (case c22 => k_is)
    (case k22 => k_is)
    (case a23 => k_is)
    (case l23 => k_is)
    (case c23 => k_is)
    (case k23 => k_is)
    (case a24 => k_is)
    (case l24 => k_is)
    (case c24 => k_is)
    (case k24 => k_is)
    (case a25 => k_is)
    (case l25 => k_is)
    (case c25 => k_is)
    (case k25 => k_is)
    (case a26 => k_is)
    (case l26 => k_is)
    (case c26 => k_is)
    (case k26 => k_is)
    (case a27 => k_is)
    (case l27 => k_is)
    (case c27 => k_is)
    (case k27 => k_is)
    (case a28 => k_is)
    (case l28 => k_is)
    (case c28 => k_is)
    (case k28 => k_is)
    (case a29 => k_is)
    (case l29 => k_is)
    (case c29 => k_is)
    (case k29 => k_is)
    (case a30 => k_is)
    (case l30 => k_is)
    (case c30 => k_is)
    (case k30 => k_is)
    (case a31 => k_is)
    (case l31 => k_is)
    (case c31 => k_is)
    (case k31 => k_is)
    (case a32 => k_is)
    (case l32 => k_is)
    (case c32 => k_is)
    (case k32 => k_is)
    (case a33 => k_is)
    (case l33 => k_is)
    (case c33 => k_is)
    (case k33 => k_is)
    (case z_int => k_is)
    (case z_str => k_is)
    (case z_bool => k_is)
    (case z_tuple => k_is)
    (case z_list => k_is)
    (case z_dict => k_is)
    (case z_isinstance => k_is)
    (case z_len => k_is)
    (case z_all => k_is)
    (case z_sorted => k_is)
    (case z_max => k_is)
    (case z_min => k_is)
    (case z_abs => k_is)
    (case z_range => k_is)
    (case z_enumerate => k_is)
