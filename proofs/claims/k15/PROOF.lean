import PyProof.Rows.All
import Wide.All
import OpenK.AllK
import Wide.FinOn
import HandS.ForMost
import HandS.Deep
import HandS.IsInst
import KE.KDictKeyed
import KE.KDictWalk
import HandS.Wide
import HandS.TupAny
import HandS.TupMul
import HandS.Style
import KE.DataCmp
import KE.SortData
import KE.KDictItemsList
import KE.GoesEnum
import HandS.Conv
import HandS.ForExc
import HandS.Small
import HandS.CallLocal
import HandS.Text
import HandS.Replace
import HandS.ExcIs
import HandS.Lambda
import HandS.More
import HandS.Dict
import HandS.NoneIn
import HandS.WordsDict
import PySem.Challenge.RW_storesagree_k15_disk_and_room
set_option Elab.async false
set_option linter.all false
set_option maxRecDepth 100000
/-! The data layer: values as plain data, over the hand layer. -/
namespace Dv
open PySem L2

/-- data: what a value is, without the heap -/
inductive D where
  | non
  | bl (b : Bool)
  | int (i : Int)
  | str (x : Str)
  | tup (xs : List D)
  | lst (xs : List D)
  | dic (kvs : List (D × D))
  | raw (v : V)

/-- what is fixed throughout: the program, the world, the written part -/
structure Cn where
  P : Program
  w : World
  K : PySem.W.Frag

/-- a datum as a key of a dict -/
def nk : D → Option NestedKey
  | .non => some .none
  | .bl b => some (.num (if b then 1 else 0))
  | .int i => some (.num i)
  | .str x => some (.text x)
  | .tup xs => (nks xs).map .tup
  | _ => none
where nks : List D → Option (List NestedKey)
  | [] => some []
  | x :: xs => match nk x, nks xs with
    | some k, some ks => some (k :: ks)
    | _, _ => none

/-- the very object o stands at a -/
def DAt (a : Addr) (o : Obj) (h : Heap) : Prop := h.get? a = some o
/-- o is a dict with the entries es -/
structure DFx (a : Addr) (o : Obj) (es : List DictEntry) : Prop where
  ex : o.ExactDict
  dt : ∃ ep, o.data = .dict es.toArray ep
  ns : (a == sysModules) = false
  sz : es.length ≤ sizeLine

mutual
/-- the value v is the datum d -/
inductive Rp (c : Cn) (H : Hp) : V → D → Prop
  | non : Rp c H .non .non
  | bl (b : Bool) : Rp c H (.bl b) (.bl b)
  | int (i : Int) : Rp c H (.int i) (.int i)
  | str {x : Str} (z : x.length ≤ sizeLine) : Rp c H (.str x) (.str x)
  | tup {a : Addr} {vs : List V} {ds : List D} (z : ds.length ≤ sizeLine) : SqT c.K H a vs → RpA c H vs ds → Rp c H (.ref a) (.tup ds)
  | lst {a : Addr} {vs : List V} {ds : List D} (z : ds.length ≤ sizeLine) : SqL c.K H a vs → RpA c H vs ds → Rp c H (.ref a) (.lst ds)
  | dic {a : Addr} {o : Obj} {es : List DictEntry} {kvs : List (D × D)} : H a = some (.ext (DAt a o)) → DFx a o es → RpE c H es kvs → (kvs.map fun p => nk p.1).Nodup → Rp c H (.ref a) (.dic kvs)
  | raw (v : V) : Rp c H v (.raw v)
inductive RpA (c : Cn) (H : Hp) : List V → List D → Prop
  | nil : RpA c H [] []
  | cons {v : V} {vs : List V} {d : D} {ds : List D} : Rp c H v d → RpA c H vs ds → RpA c H (v :: vs) (d :: ds)
inductive RpE (c : Cn) (H : Hp) : List DictEntry → List (D × D) → Prop
  | nil : RpE c H [] []
  | cons {e : DictEntry} {kv v : V} {n : NestedKey} {es : List DictEntry} {k d : D} {kvs : List (D × D)} : RelV kv e.key → Rp c H kv k → nk k = some n → e.hash = n.hash c.w → RelV v e.val → Rp c H v d → RpE c H es kvs → RpE c H (e :: es) ((k, d) :: kvs)
end

theorem SqT_same {K : PySem.W.Frag} {H H' : Hp} {a : Addr} {xs : List V} (e : Same H H') (h : SqT K H a xs) : SqT K H' a xs := by
  rcases h with (h | ⟨o, h⟩) | h
  · exact .inl (.inl (e _ _ h))
  · exact .inl (.inr ⟨o, e _ _ h⟩)
  · exact .inr h
section
variable {c : Cn} {H H' : Hp}
mutual
theorem Rp.same (e : Same H H') : ∀ {v : V} {d : D}, Rp c H v d → Rp c H' v d
  | _, _, .non => .non
  | _, _, .bl b => .bl b
  | _, _, .int i => .int i
  | _, _, .str z => .str z
  | _, _, .tup z h t => .tup z (SqT_same e h) (RpA.same e t)
  | _, _, .lst z h t => .lst z (e.seq h) (RpA.same e t)
  | _, _, .dic h x t n => .dic (e _ _ h) x (RpE.same e t) n
  | _, _, .raw v => .raw v
theorem RpA.same (e : Same H H') : ∀ {vs : List V} {ds : List D}, RpA c H vs ds → RpA c H' vs ds
  | _, _, .nil => .nil
  | _, _, .cons h t => .cons (Rp.same e h) (RpA.same e t)
theorem RpE.same (e : Same H H') : ∀ {vs : List DictEntry} {ds : List (D × D)}, RpE c H vs ds → RpE c H' vs ds
  | _, _, .nil => .nil
  | _, _, .cons r h k z q g t => .cons r (Rp.same e h) k z q (Rp.same e g) (RpE.same e t)
end
theorem RpA.length : ∀ {vs : List V} {ds : List D}, RpA c H vs ds → vs.length = ds.length
  | _, _, .nil => rfl
  | _, _, .cons _ t => by rw [List.length_cons, List.length_cons, RpA.length t]
theorem RpA.append : ∀ {vs ws : List V} {ds es : List D}, RpA c H vs ds → RpA c H ws es → RpA c H (vs ++ ws) (ds ++ es)
  | _, _, _, _, .nil, s => s
  | _, _, _, _, .cons h t, s => .cons h (RpA.append t s)
theorem RpA.one {v : V} {d : D} (h : Rp c H v d) : RpA c H [v] [d] := .cons h .nil
theorem RpA.get : ∀ {vs : List V} {ds : List D} {i : Nat} {d : D}, RpA c H vs ds → ds[i]? = some d → ∃ v, vs[i]? = some v ∧ Rp c H v d
  | _, _, _, _, .nil, e => by simp at e
  | _, _, 0, d, .cons h _, e => by
    simp at e
    subst e
    exact ⟨_, rfl, h⟩
  | _, _, i + 1, d, .cons _ t, e => by
    obtain ⟨v, a, b⟩ := RpA.get (i := i) t (by simpa using e)
    exact ⟨v, by simpa using a, b⟩
theorem RpA.getV : ∀ {vs : List V} {ds : List D} {i : Nat} {v : V}, RpA c H vs ds → vs[i]? = some v → ∃ d, ds[i]? = some d ∧ Rp c H v d
  | _, _, _, _, .nil, e => by simp at e
  | _, _, 0, d, .cons h _, e => by
    simp at e
    subst e
    exact ⟨_, rfl, h⟩
  | _, _, i + 1, d, .cons _ t, e => by
    obtain ⟨v, a, b⟩ := RpA.getV (i := i) t (by simpa using e)
    exact ⟨v, by simpa using a, b⟩
theorem RpA.take : ∀ {vs : List V} {ds : List D} (n : Nat), RpA c H vs ds → RpA c H (vs.take n) (ds.take n)
  | _, _, 0, _ => .nil
  | _, _, _ + 1, .nil => .nil
  | _, _, n + 1, .cons h t => .cons h (RpA.take n t)
theorem RpA.drop : ∀ {vs : List V} {ds : List D} (n : Nat), RpA c H vs ds → RpA c H (vs.drop n) (ds.drop n)
  | _, _, 0, r => r
  | _, _, _ + 1, .nil => .nil
  | _, _, n + 1, .cons _ t => RpA.drop n t
theorem RpA.rev {vs : List V} {ds : List D} (h : RpA c H vs ds) : RpA c H vs.reverse ds.reverse := by
  induction vs generalizing ds with
  | nil => cases h; exact .nil
  | cons v vs ih =>
    cases h with
    | cons a t =>
      rw [List.reverse_cons, List.reverse_cons]
      exact (ih t).append (.one a)
theorem RpA.all {vs : List V} {ds : List D} (h : RpA c H vs ds) : ∀ v ∈ vs, ∃ d ∈ ds, Rp c H v d := by
  intro v hv
  obtain ⟨i, e⟩ := List.mem_iff_getElem?.mp hv
  obtain ⟨d, e2, r⟩ := h.getV e
  exact ⟨d, List.mem_of_getElem? e2, r⟩
end

/-! ### steps of the heap -/
/-- new things laid, nothing else: Hs what is fixed for ever (data), H all -/
structure Lay (Hs H Hs' H' : Hp) : Prop where
  fz : Same Hs Hs'
  sub : Same Hs' H'
  new : ∀ a, Hs' a ≠ none → Hs a ≠ none ∨ H a = none
  ext : Same H H'
theorem Lay.refl {Hs H : Hp} (h : Same Hs H) : Lay Hs H Hs H := ⟨Same.refl _, h, fun _ q => .inl q, Same.refl _⟩
theorem ne_none {H : Hp} {a : Addr} (h : H a ≠ none) : ∃ o, H a = some o := by
  cases q : H a with
  | none => exact absurd q h
  | some o => exact ⟨o, rfl⟩
theorem Lay.trans {Hs H H1 H1' H2 H2' : Hp} (a : Lay Hs H H1 H1') (b : Lay H1 H1' H2 H2') : Lay Hs H H2 H2' :=
  ⟨a.fz.trans b.fz, b.sub, fun x q => by
    rcases b.new x q with z | z
    · exact a.new x z
    · exact .inr (a.ext.free z), a.ext.trans b.ext⟩
theorem Same.upd2 {Hs H : Hp} {p : Addr} {o : HO} (h : Same Hs H) : Same (upd Hs p o) (upd H p o) := fun a u e => by
  by_cases q : a = p
  · subst q
    rw [upd_same] at e ⊢
    exact e
  · rw [upd_ne q] at e ⊢
    exact h a u e
theorem Same.updR {H : Hp} {p : Addr} {o : HO} (hp : H p = none) : Same H (upd H p o) := fun a u e => by
  rw [upd_ne (ne_of_none e hp)]
  exact e
theorem Lay.one {Hs H : Hp} {p : Addr} {o : HO} (h : Same Hs H) (hp : H p = none) : Lay Hs H (upd Hs p o) (upd H p o) := by
  have hs : Hs p = none := h.free hp
  refine ⟨Same.updR hs, Same.upd2 h, fun a q => ?_, Same.updR hp⟩
  by_cases e : a = p
  · subst e
    exact .inr hp
  · rw [upd_ne e] at q
    exact .inl q
/-- a thing laid that is not data (mutable) -/
theorem Lay.mut {Hs H : Hp} {p : Addr} {o : HO} (h : Same Hs H) (hp : H p = none) : Lay Hs H Hs (upd H p o) :=
  ⟨Same.refl _, h.trans (Same.updR hp), fun _ q => .inl q, Same.updR hp⟩

theorem upd_keep {own : Addr → Prop} {Hs : Hp} {p : Addr} {o : HO} (n : ¬ own p) : ∀ a, own a → Hs a = none → upd Hs p o a = none := fun a q e => by
  have z : a ≠ p := fun z => by
    subst z
    exact n q
  rw [upd_ne z]
  exact e
/-- a mutable thing that runs along: its states, where it stands, how it lies in the heap -/
structure Wld where
  S : Type
  own : S → Addr → Prop
  rel : S → Hp → Hp → Prop
  keep : ∀ {s : S} {Hs H Hs' H' : Hp}, rel s Hs H → Same Hs Hs' → (∀ a, own s a → Hs a = none → Hs' a = none) → (∀ a, own s a → H' a = H a) → rel s Hs' H'
  there : ∀ {s : S} {Hs H : Hp} {a : Addr}, rel s Hs H → own s a → H a ≠ none
/-- no such thing -/
def W0 : Wld := ⟨Unit, fun _ _ => False, fun _ _ _ => True, fun _ _ _ _ => trivial, fun _ h => h.elim⟩

structure Go (W : Wld) (s : W.S) (Hs H : Hp) (s' : W.S) (Hs' H' : Hp) : Prop where
  fz : Same Hs Hs'
  sub : Same Hs' H'
  new : ∀ a, Hs' a ≠ none → Hs a ≠ none ∨ H a = none
  ext : ∀ a o, H a = some o → ¬ W.own s a → H' a = some o
  th : ∀ a, H a ≠ none → H' a ≠ none
  wn : ∀ a, W.own s' a → W.own s a ∨ H a = none
  rel : W.rel s' Hs' H'
section
variable {W : Wld} {s s1 s2 : W.S} {Hs H H1 H1' H2 H2' : Hp}
theorem Go.refl (h : Same Hs H) (r : W.rel s Hs H) : Go W s Hs H s Hs H := ⟨Same.refl _, h, fun _ q => .inl q, fun _ _ q _ => q, fun _ q => q, fun _ q => .inl q, r⟩
theorem free_of {H H' : Hp} (th : ∀ a, H a ≠ none → H' a ≠ none) {a : Addr} (h : H' a = none) : H a = none := by
  cases q : H a with
  | none => rfl
  | some o => exact absurd h (th a (by rw [q]; exact fun z => nomatch z))
theorem Go.trans (a : Go W s Hs H s1 H1 H1') (b : Go W s1 H1 H1' s2 H2 H2') : Go W s Hs H s2 H2 H2' := by
  refine ⟨a.fz.trans b.fz, b.sub, fun x q => ?_, fun x o q n => ?_, fun x q => b.th x (a.th x q), fun x q => ?_, b.rel⟩
  · rcases b.new x q with z | z
    · exact a.new x z
    · exact .inr (free_of a.th z)
  · refine b.ext x o (a.ext x o q n) fun z => ?_
    rcases a.wn x z with y | y
    · exact n y
    · rw [q] at y
      cases y
  · rcases b.wn x q with z | z
    · exact a.wn x z
    · exact .inr (free_of a.th z)
theorem Lay.go {Hs' H' : Hp} (l : Lay Hs H Hs' H') (r : W.rel s Hs H) : Go W s Hs H s Hs' H' := by
  refine ⟨l.fz, l.sub, l.new, fun _ _ q _ => l.ext _ _ q, fun x q => ?_, fun _ q => .inl q, W.keep r l.fz (fun x q e => ?_) fun x q => ?_⟩
  · obtain ⟨o, e⟩ := ne_none q
    rw [l.ext _ _ e]
    exact fun z => nomatch z
  · cases z : Hs' x with
    | none => rfl
    | some u =>
      rcases l.new x (by rw [z]; exact fun y => nomatch y) with y | y
      · exact absurd e y
      · exact absurd y (W.there r q)
  · obtain ⟨o, e⟩ := ne_none (W.there r q)
    rw [e, l.ext _ _ e]
theorem Go.lay {u u1 : W0.S} {Hs' H' : Hp} (g : Go W0 u Hs H u1 Hs' H') : Lay Hs H Hs' H' := ⟨g.fz, g.sub, g.new, fun a o q => g.ext a o q fun z => z⟩
end

/-! ### slots -/
/-- a thing of one's own: a list or dict that is changed, that nothing else holds -/
inductive Ob where
  | lst (xs : List D)
  | dic (kvs : List (D × D))
inductive OR (c : Cn) (Hs : Hp) (p : Addr) : HO → Ob → Prop
  | lst {vs : List V} {xs : List D} (z : xs.length ≤ sizeLine) : RpA c Hs vs xs → OR c Hs p (.lst vs) (.lst xs)
  | dic {o : Obj} {es : List DictEntry} {kvs : List (D × D)} : DFx p o es → RpE c Hs es kvs → (kvs.map fun q => nk q.1).Nodup → OR c Hs p (.ext (DAt p o)) (.dic kvs)
theorem OR.same {c : Cn} {H H' : Hp} {p : Addr} {o : HO} {b : Ob} (e : Same H H') (h : OR c H p o b) : OR c H' p o b := by
  cases h with
  | lst z r => exact .lst z (r.same e)
  | dic x r n => exact .dic x (r.same e) n
inductive Slot where
  | un
  | d (x : D)
  | own (o : Ob)
abbrev Env := List Slot

/-- the entry of a def -/
structure Bs (W : Wld) where
  s : W.S
  Hs : Hp
  H : Hp
  /-- what is to hold where an exception of the class is raised -/
  ex : Env → Value → W.S → Prop

structure Stt (c : Cn) (W : Wld) (B : Bs W) (σ : St) (H : Hp) (ρ : Env) (s : W.S) (Hs : Hp) : Prop where
  go : Go W B.s B.Hs B.H s Hs H
  len : σ.length = ρ.length
  dat : ∀ (i : Nat) (d : D), ρ[i]? = some (.d d) → ∃ v, σ[i]? = some (some v) ∧ Rp c Hs v d
  ow : ∀ (i : Nat) (b : Ob), ρ[i]? = some (.own b) → ∃ p o, σ[i]? = some (some (.ref p)) ∧ H p = some o ∧ OR c Hs p o b ∧ Hs p = none ∧ ¬ W.own s p ∧ B.H p = none
  ap : ∀ (i j : Nat) (b b' : Ob) (p : Addr), ρ[i]? = some (.own b) → ρ[j]? = some (.own b') → σ[i]? = some (some (.ref p)) → σ[j]? = some (some (.ref p)) → i = j
section
variable {c : Cn} {W : Wld} {B : Bs W} {σ : St} {H : Hp} {ρ : Env} {s : W.S} {Hs : Hp}
theorem Stt.sub (S : Stt c W B σ H ρ s Hs) : Same Hs H := S.go.sub
theorem Stt.rel (S : Stt c W B σ H ρ s Hs) : W.rel s Hs H := S.go.rel
/-- behind an expression -/
theorem Stt.step {s' : W.S} {Hs' H' : Hp} (S : Stt c W B σ H ρ s Hs) (g : Go W s Hs H s' Hs' H') : Stt c W B σ H' ρ s' Hs' where
  go := S.go.trans g
  len := S.len
  dat := fun i d e => by
    obtain ⟨v, a, r⟩ := S.dat i d e
    exact ⟨v, a, r.same g.fz⟩
  ow := fun i b e => by
    obtain ⟨p, o, h1, h2, h3, h4, h5, h6⟩ := S.ow i b e
    refine ⟨p, o, h1, g.ext p o h2 h5, h3.same g.fz, ?_, fun z => ?_, h6⟩
    · cases q : Hs' p with
      | none => rfl
      | some u =>
        rcases g.new p (by rw [q]; exact fun z => nomatch z) with z | z
        · exact absurd h4 z
        · rw [h2] at z; cases z
    · rcases g.wn p z with y | y
      · exact h5 y
      · rw [h2] at y; cases y
  ap := S.ap
/-- the start of a def -/
theorem Stt.start {ex : Env → Value → W.S → Prop} {s : W.S} {Hs H : Hp} {vs : List V} {ds : List D} {m : Nat} (h : Same Hs H) (r : W.rel s Hs H) (ra : RpA c Hs vs ds) :
    Stt c W ⟨s, Hs, H, ex⟩ (vs.map some ++ List.replicate m none) H (ds.map .d ++ List.replicate m .un) s Hs := by
  have hl := ra.length
  have noown : ∀ (i : Nat) (b : Ob), (ds.map Slot.d ++ List.replicate m .un)[i]? ≠ some (.own b) := fun i b e => by
    by_cases hi : i < ds.length
    · rw [List.getElem?_append_left (by simpa using hi), List.getElem?_map] at e
      cases q : ds[i]? with
      | none => rw [q] at e; cases e
      | some d => rw [q] at e; cases e
    · rw [List.getElem?_append_right (by simpa using hi), List.getElem?_replicate] at e
      split at e <;> cases e
  refine ⟨Go.refl h r, by simp [hl], fun i d e => ?_, fun i b e => absurd e (noown i b), fun i j b b' p e => absurd e (noown i b)⟩
  by_cases hi : i < ds.length
  · rw [List.getElem?_append_left (by simpa using hi), List.getElem?_map] at e
    cases q : ds[i]? with
    | none => rw [q] at e; cases e
    | some d' =>
      rw [q] at e
      cases e
      obtain ⟨v, hv, rv⟩ := ra.get q
      refine ⟨v, ?_, rv⟩
      rw [List.getElem?_append_left (by simpa [hl] using hi), List.getElem?_map, hv]
      rfl
  · rw [List.getElem?_append_right (by simpa using hi), List.getElem?_replicate] at e
    split at e <;> cases e
/-- a slot is stored: a datum -/
theorem Stt.set {i : Nat} {v : V} {d : D} (S : Stt c W B σ H ρ s Hs) (r : Rp c Hs v d) : Stt c W B (σ.set i (some v)) H (ρ.set i (.d d)) s Hs := by
  have hn : ∀ (j : Nat) (b : Ob), (ρ.set i (.d d))[j]? = some (.own b) → j ≠ i ∧ ρ[j]? = some (.own b) := fun j b e => by
    by_cases q : i = j
    · subst q
      by_cases hi : i < ρ.length
      · rw [List.getElem?_set_self hi] at e; cases e
      · rw [List.getElem?_eq_none (by simpa using hi)] at e; cases e
    · rw [List.getElem?_set_ne q] at e
      exact ⟨fun z => q z.symm, e⟩
  refine ⟨S.go, by simpa using S.len, fun j d' e => ?_, fun j b e => ?_, fun j k b b' p e1 e2 e3 e4 => ?_⟩
  · by_cases q : i = j
    · subst q
      by_cases hi : i < ρ.length
      · rw [List.getElem?_set_self hi] at e
        cases e
        exact ⟨v, by rw [List.getElem?_set_self (by rw [S.len]; exact hi)], r⟩
      · rw [List.getElem?_eq_none (by simpa using hi)] at e; cases e
    · rw [List.getElem?_set_ne q] at e ⊢
      exact S.dat j d' e
  · obtain ⟨h1, h2⟩ := hn j b e
    obtain ⟨p, o, a, z⟩ := S.ow j b h2
    exact ⟨p, o, by rw [List.getElem?_set_ne (Ne.symm h1)]; exact a, z⟩
  · obtain ⟨h1, h2⟩ := hn j b e1
    obtain ⟨h3, h4⟩ := hn k b' e2
    rw [List.getElem?_set_ne (Ne.symm h1)] at e3
    rw [List.getElem?_set_ne (Ne.symm h3)] at e4
    exact S.ap j k b b' p h2 h4 e3 e4
/-- .. a new thing of one's own -/
theorem Stt.setOwn {i : Nat} {p : Addr} {o : HO} {b : Ob} (S : Stt c W B σ H ρ s Hs) (hp : H p = some o) (r : OR c Hs p o b) (h1 : Hs p = none) (h2 : ¬ W.own s p) (h3 : B.H p = none)
    (h4 : ∀ j b', j ≠ i → ρ[j]? = some (.own b') → σ[j]? ≠ some (some (.ref p))) : Stt c W B (σ.set i (some (.ref p))) H (ρ.set i (.own b)) s Hs := by
  have cs : ∀ (j : Nat) (b' : Ob), (ρ.set i (.own b))[j]? = some (.own b') → (j = i ∧ i < ρ.length ∧ b' = b) ∨ (j ≠ i ∧ ρ[j]? = some (.own b')) := fun j b' e => by
    by_cases q : i = j
    · subst q
      by_cases hi : i < ρ.length
      · rw [List.getElem?_set_self hi] at e
        cases e
        exact .inl ⟨rfl, hi, rfl⟩
      · rw [List.getElem?_eq_none (by simpa using hi)] at e; cases e
    · rw [List.getElem?_set_ne q] at e
      exact .inr ⟨fun z => q z.symm, e⟩
  refine ⟨S.go, by simpa using S.len, fun j d' e => ?_, fun j b' e => ?_, fun j k b1 b2 q e1 e2 e3 e4 => ?_⟩
  · by_cases q : i = j
    · subst q
      by_cases hi : i < ρ.length
      · rw [List.getElem?_set_self hi] at e; cases e
      · rw [List.getElem?_eq_none (by simpa using hi)] at e; cases e
    · rw [List.getElem?_set_ne q] at e ⊢
      exact S.dat j d' e
  · rcases cs j b' e with ⟨rfl, hi, rfl⟩ | ⟨h, e'⟩
    · exact ⟨p, o, by rw [List.getElem?_set_self (by rw [S.len]; exact hi)], hp, r, h1, h2, h3⟩
    · obtain ⟨p', o', a, z⟩ := S.ow j b' e'
      exact ⟨p', o', by rw [List.getElem?_set_ne (Ne.symm h)]; exact a, z⟩
  · rcases cs j b1 e1 with ⟨rfl, hi, _⟩ | ⟨h, e'⟩
    · rcases cs k b2 e2 with ⟨rfl, _, _⟩ | ⟨hk, ek⟩
      · rfl
      · rw [List.getElem?_set_self (by rw [S.len]; exact hi)] at e3
        cases e3
        rw [List.getElem?_set_ne (Ne.symm hk)] at e4
        exact absurd e4 (h4 k b2 hk ek)
    · rcases cs k b2 e2 with ⟨rfl, hi, _⟩ | ⟨hk, ek⟩
      · rw [List.getElem?_set_self (by rw [S.len]; exact hi)] at e4
        cases e4
        rw [List.getElem?_set_ne (Ne.symm h)] at e3
        exact absurd e3 (h4 j b1 h e')
      · rw [List.getElem?_set_ne (Ne.symm h)] at e3
        rw [List.getElem?_set_ne (Ne.symm hk)] at e4
        exact S.ap j k b1 b2 q e' ek e3 e4
/-- a new place is no slot's own -/
theorem Stt.fresh {p : Addr} (S : Stt c W B σ H ρ s Hs) (hp : H p = none) : ∀ (j : Nat) (b : Ob), ρ[j]? = some (.own b) → σ[j]? ≠ some (some (.ref p)) := fun j b e z => by
  obtain ⟨q, o, a, h, _⟩ := S.ow j b e
  rw [a] at z
  cases z
  rw [h] at hp; cases hp
/-- a thing of one's own is changed -/
theorem Stt.mut {i : Nat} {p : Addr} {o' : HO} {b b' : Ob} (S : Stt c W B σ H ρ s Hs) (e : ρ[i]? = some (.own b)) (es : σ[i]? = some (some (.ref p))) (r : OR c Hs p o' b') :
    Stt c W B σ (upd H p o') (ρ.set i (.own b')) s Hs := by
  obtain ⟨p0, o0, a1, a2, a3, a4, a5, a6⟩ := S.ow i b e
  rw [es] at a1
  cases a1
  have hi : i < ρ.length := (List.getElem?_eq_some_iff.mp e).1
  have ne : ∀ {q : Addr} {u : HO}, Hs q = some u → q ≠ p := fun h z => by rw [z, a4] at h; cases h
  refine ⟨⟨S.go.fz, fun a u h => ?_, S.go.new, fun a u h n => ?_, fun a h => ?_, S.go.wn, W.keep S.go.rel (Same.refl _) (fun _ _ z => z) fun a h => ?_⟩, by simpa using S.len, fun j d' ej => ?_, fun j b1 ej => ?_, fun j k b1 b2 q e1 e2 e3 e4 => ?_⟩
  · rw [upd_ne (ne h)]; exact S.go.sub a u h
  · have : a ≠ p := fun z => by rw [z, a6] at h; cases h
    rw [upd_ne this]; exact S.go.ext a u h n
  · by_cases z : a = p
    · rw [z, upd_same]; exact fun z => nomatch z
    · rw [upd_ne z]; exact S.go.th a h
  · have : a ≠ p := fun z => by rw [z] at h; exact a5 h
    rw [upd_ne this]
  · by_cases q : i = j
    · subst q
      rw [List.getElem?_set_self hi] at ej; cases ej
    · rw [List.getElem?_set_ne q] at ej
      exact S.dat j d' ej
  · by_cases q : i = j
    · subst q
      rw [List.getElem?_set_self hi] at ej
      cases ej
      exact ⟨p, o', es, upd_same, r, a4, a5, a6⟩
    · rw [List.getElem?_set_ne q] at ej
      obtain ⟨p', u, c1, c2, c3, c4, c5, c6⟩ := S.ow j b1 ej
      have : p' ≠ p := fun z => by
        subst z
        exact q (S.ap i j b b1 p' e ej es c1)
      exact ⟨p', u, c1, by rw [upd_ne this]; exact c2, c3, c4, c5, c6⟩
  · have back : ∀ (m : Nat) (bm : Ob), (ρ.set i (.own b'))[m]? = some (.own bm) → ∃ bm', ρ[m]? = some (.own bm') := fun m bm em => by
      by_cases q : i = m
      · subst q; exact ⟨b, e⟩
      · rw [List.getElem?_set_ne q] at em
        exact ⟨bm, em⟩
    obtain ⟨x1, y1⟩ := back j b1 e1
    obtain ⟨x2, y2⟩ := back k b2 e2
    exact S.ap j k x1 x2 q y1 y2 e3 e4
/-- a slot is forgotten -/
theorem Stt.forget {i : Nat} {v : Option V} (S : Stt c W B σ H ρ s Hs) : Stt c W B (σ.set i v) H (ρ.set i .un) s Hs := by
  have hn : ∀ (j : Nat) (x : Slot), x ≠ .un → (ρ.set i .un)[j]? = some x → j ≠ i ∧ ρ[j]? = some x := fun j x hx e => by
    by_cases q : i = j
    · subst q
      by_cases hi : i < ρ.length
      · rw [List.getElem?_set_self hi] at e
        cases e
        exact absurd rfl hx
      · rw [List.getElem?_eq_none (by simpa using hi)] at e; cases e
    · rw [List.getElem?_set_ne q] at e
      exact ⟨fun z => q z.symm, e⟩
  refine ⟨S.go, by simpa using S.len, fun j d' e => ?_, fun j b e => ?_, fun j k b b' p e1 e2 e3 e4 => ?_⟩
  · obtain ⟨h1, h2⟩ := hn j (.d d') (fun z => nomatch z) e
    rw [List.getElem?_set_ne (Ne.symm h1)]
    exact S.dat j d' h2
  · obtain ⟨h1, h2⟩ := hn j (.own b) (fun z => nomatch z) e
    rw [List.getElem?_set_ne (Ne.symm h1)]
    exact S.ow j b h2
  · obtain ⟨h1, h2⟩ := hn j (.own b) (fun z => nomatch z) e1
    obtain ⟨h3, h4⟩ := hn k (.own b') (fun z => nomatch z) e2
    rw [List.getElem?_set_ne (Ne.symm h1)] at e3
    rw [List.getElem?_set_ne (Ne.symm h3)] at e4
    exact S.ap j k b b' p h2 h4 e3 e4
end
end Dv

set_option Elab.async false
set_option linter.all false
set_option maxRecDepth 100000
/-! Judgements over data, the rules of expressions. -/
namespace Dv
open PySem L2

abbrev cn (X : Cx) : Cn := ⟨X.prog, X.w, X.K⟩

section
variable {X : Cx}
theorem pe_imp {e : Expr} {t t' : TE} (h : PE X e t) (f : ∀ σ H Q, t' σ H Q → t σ H Q) : PE X e t' := ⟨fun pins s σ H Q I w => h.run pins s σ H Q I (f _ _ _ w)⟩
theorem pt_imp {e : Expr} {t t' : TT} (h : PT X e t) (f : ∀ σ H Q, t' σ H Q → t σ H Q) : PT X e t' := ⟨fun pins s σ H Q I w => h.run pins s σ H Q I (f _ _ _ w)⟩
theorem pw_imp {e : Expr} {t t' : TT} (h : PW X e t) (f : ∀ σ H Q, t' σ H Q → t σ H Q) : PW X e t' := ⟨fun wh pins s σ H Q I w => h.run wh pins s σ H Q I (f _ _ _ w)⟩
theorem pa_imp {es : List Expr} {t t' : TA} (h : PA X es t) (f : ∀ σ H Q, t' σ H Q → t σ H Q) : PA X es t' := ⟨fun pos pins s σ H Q I w => h.run pos pins s σ H Q I (f _ _ _ w)⟩
theorem ps_imp {st : Stmt} {t t' : TS} (h : PS X st t) (f : ∀ D σ H, t' D σ H → t D σ H) : PS X st t' := ⟨fun pins s σ H D I w => h.run pins s σ H D I (f _ _ _ w)⟩
theorem pss_imp {st : List Stmt} {t t' : TS} (h : PSs X st t) (f : ∀ D σ H, t' D σ H → t D σ H) : PSs X st t' := ⟨fun pins s σ H D I w => h.run pins s σ H D I (f _ _ _ w)⟩
theorem pi_imp {tg e : Expr} {t t' : TI} (h : PI X tg e t) (f : ∀ σ H R, t' σ H R → t σ H R) : PI X tg e t' := ⟨fun pins s σ H R I w => h.run pins s σ H R I (f _ _ _ w)⟩
end

/-! ### what is wanted behind a piece -/
abbrev AftP (c : Cn) (Hs H : Hp) (R : D → Prop) (Q : VK) : Prop := ∀ d Hs' H' v, R d → Lay Hs H Hs' H' → Rp c Hs' v d → Q v H'
abbrev Aft (c : Cn) (W : Wld) (s : W.S) (Hs H : Hp) (R : D → W.S → Prop) (Q : VK) : Prop := ∀ d s' Hs' H' v, R d s' → Go W s Hs H s' Hs' H' → Rp c Hs' v d → Q v H'
abbrev AftB (W : Wld) (s : W.S) (Hs H : Hp) (R : Bool → W.S → Prop) (Q : Bool → Hp → Prop) : Prop := ∀ b s' Hs' H', R b s' → Go W s Hs H s' Hs' H' → Q b H'
abbrev AftA (c : Cn) (W : Wld) (s : W.S) (Hs H : Hp) (R : List D → W.S → Prop) (Q : List V → Hp → Prop) : Prop := ∀ ds s' Hs' H' vs, R ds s' → Go W s Hs H s' Hs' H' → RpA c Hs' vs ds → Q vs H'

abbrev TD (W : Wld) := Env → W.S → (D → W.S → Prop) → Prop
abbrev TDB (W : Wld) := Env → W.S → (Bool → W.S → Prop) → Prop
abbrev TDA (W : Wld) := Env → W.S → (List D → W.S → Prop) → Prop
abbrev P1 := D → (D → Prop) → Prop
abbrev P2 := D → D → (D → Prop) → Prop
abbrev PL := List D → (D → Prop) → Prop

def liftE (c : Cn) (W : Wld) (B : Bs W) (t : TD W) : TE := fun σ H Q => ∃ Hs ρ s R, Stt c W B σ H ρ s Hs ∧ t ρ s R ∧ Aft c W s Hs H R Q
def liftT (c : Cn) (W : Wld) (B : Bs W) (t : TDB W) : TT := fun σ H Q => ∃ Hs ρ s R, Stt c W B σ H ρ s Hs ∧ t ρ s R ∧ AftB W s Hs H R Q
def liftA (c : Cn) (W : Wld) (B : Bs W) (t : TDA W) : TA := fun σ H Q => ∃ Hs ρ s R, Stt c W B σ H ρ s Hs ∧ t ρ s R ∧ AftA c W s Hs H R Q
structure DE (W : Wld) (B : Bs W) (X : Cx) (e : Expr) (t : TD W) : Prop where
  run : PE X e (liftE (cn X) W B t)
structure DT (W : Wld) (B : Bs W) (X : Cx) (e : Expr) (t : TDB W) : Prop where
  run : PT X e (liftT (cn X) W B t)
structure DW (W : Wld) (B : Bs W) (X : Cx) (e : Expr) (t : TDB W) : Prop where
  run : PW X e (liftT (cn X) W B t)
structure DA (W : Wld) (B : Bs W) (X : Cx) (es : List Expr) (t : TDA W) : Prop where
  run : PA X es (liftA (cn X) W B t)

/-- rules of values that are pure -/
def Lk1 (X : Cx) (r : V → Hp → VK → Prop) (p : P1) : Prop := ∀ Hs H x d R Q, Same Hs H → Rp (cn X) Hs x d → p d R → AftP (cn X) Hs H R Q → r x H Q
def Lk2 (X : Cx) (r : R2) (p : P2) : Prop := ∀ Hs H x y d e R Q, Same Hs H → Rp (cn X) Hs x d → Rp (cn X) Hs y e → p d e R → AftP (cn X) Hs H R Q → r x y H Q
def LkL (X : Cx) (r : List V → Hp → VK → Prop) (p : PL) : Prop := ∀ Hs H vs ds R Q, Same Hs H → RpA (cn X) Hs vs ds → p ds R → AftP (cn X) Hs H R Q → r vs H Q
def LkM (X : Cx) (r : V → List V → Hp → VK → Prop) (p : D → PL) : Prop := ∀ Hs H x d vs ds R Q, Same Hs H → Rp (cn X) Hs x d → RpA (cn X) Hs vs ds → p d ds R → AftP (cn X) Hs H R Q → r x vs H Q
def OpD (X : Cx) (f : Value → Value → Sem Value) (p : P2) : Prop := ∃ r, OpR X f r ∧ Lk2 X r p
def UnD (X : Cx) (f : Value → Sem Value) (p : P1) : Prop := ∃ r, UnR X f r ∧ Lk1 X r p
def CallD (X : Cx) (f : Value) (p : PL) : Prop := ∃ r, CallR X f r ∧ LkL X r p

section
variable {W : Wld} {B : Bs W} {X : Cx} {pos : Pos} {a b e : Expr} {ta tb tc : TD W}

/-! ### names, constants -/
def dVar (i : Nat) : TD W := fun ρ s Q => ∃ d, ρ[i]? = some (.d d) ∧ Q d s
def dC (d : D) : TD W := fun _ s Q => Q d s
theorem de_name {i : Nat} (h : PE X e (tVar i)) : DE W B X e (dVar i) := ⟨pe_imp h fun σ H Q ⟨Hs, ρ, s, R, S, ⟨d, e1, h1⟩, k⟩ => by
  obtain ⟨v, ev, rv⟩ := S.dat i d e1
  exact ⟨v, ev, k d s Hs H v h1 (Go.refl S.sub S.rel) rv⟩⟩
theorem de_const {v : V} {d : D} (h : PE X e (tC v)) (r : ∀ Hs, Rp (cn X) Hs v d) : DE W B X e (dC d) := ⟨pe_imp h fun σ H Q ⟨Hs, ρ, s, R, S, h1, k⟩ => k d s Hs H v h1 (Go.refl S.sub S.rel) (r Hs)⟩
theorem dv (i : Nat) {x : Str} (hN : X.N[i]? = some x := by rfl) (hv : Vis X.env.scope x := by first | exact Or.inl rfl | exact Or.inr (Or.inl rfl) | exact Or.inr (Or.inr rfl)) (hd : (x == ("__debug__" : Str)) = false := by decide)
    (hcd : (x == ("__classdict__" : Str)) = false := by decide) : DE W B X (.Name x pos) (dVar i) := de_name (pe_var hN hv hd hcd)
theorem de_int {i : Int} {j : Nat} : DE W B X (.Constant (.int i) j pos) (dC (.int i)) := de_const pe_int fun _ => .int i
theorem de_bl {b : Bool} {j : Nat} : DE W B X (.Constant (.bool b) j pos) (dC (.bl b)) := de_const pe_bl fun _ => .bl b
theorem de_non {j : Nat} : DE W B X (.Constant .none j pos) (dC .non) := de_const pe_non fun _ => .non
theorem de_str {x : Str} {j : Nat} (z : x.length ≤ sizeLine := by decide) : DE W B X (.Constant (.str x) j pos) (dC (.str x)) := de_const pe_str fun _ => .str z
/-- a name of a built-in type -/
theorem de_ty {x : Str} {n : String} (hg : Gl X x) (hm : X.mg x = none) (hv : bootBuiltins x = some (.type n)) (hn : x ≠ "__name__" := by decide) (hd : (x == ("__debug__" : Str)) = false := by decide) : DE W B X (.Name x pos) (dC (.raw (.ty n))) :=
  de_const (pe_bltn (v := .ty n) hg hm hv rfl hn hd) fun _ => .raw _
/-- a class or def of the module -/
theorem de_top {x : Str} {f : Addr} (hg : Gl X x) (hm : X.mg x = some (.ref f)) (hd : (x == ("__debug__" : Str)) = false := by decide) : DE W B X (.Name x pos) (dC (.raw (.ref f))) :=
  de_const (pe_glob (v := .ref f) hg hm rfl hd) fun _ => .raw _

/-! ### operators -/
def dOp (p : P2) (ta tb : TD W) : TD W := fun ρ s Q => ta ρ s fun x s1 => tb ρ s1 fun y s2 => p x y fun d => Q d s2
theorem lift_op {r : R2} {p : P2} (l : Lk2 X r p) {σ : St} {H : Hp} {Q : VK} (h : liftE (cn X) W B (dOp p ta tb) σ H Q) : tOp r (liftE (cn X) W B ta) (liftE (cn X) W B tb) σ H Q := by
  obtain ⟨Hs, ρ, s, R, S, h1, k⟩ := h
  refine ⟨Hs, ρ, s, _, S, h1, fun x s1 Hs1 H1 v hR g1 rv => ?_⟩
  refine ⟨Hs1, ρ, s1, _, S.step g1, hR, fun y s2 Hs2 H2 u hR2 g2 ru => ?_⟩
  exact l Hs2 H2 v u x y _ _ g2.sub (rv.same g2.fz) ru hR2 fun z Hs3 H3 w hz ly rz => k z s2 Hs3 H3 w hz (g1.trans (g2.trans (ly.go g2.rel))) rz
theorem de_op {op : Operator} {p : P2} (ho : OpD X (binaryOp op) p) (ha : DE W B X a ta) (hb : DE W B X b tb) : DE W B X (.BinOp a op b pos) (dOp p ta tb) := by
  obtain ⟨r, hr, l⟩ := ho
  exact ⟨pe_imp (pe_op hr ha.run hb.run) fun σ H Q h => lift_op l h⟩
theorem de_cmp {op : CmpOp} {p : P2} (ho : OpD X (compareOp op) p) (ha : DE W B X a ta) (hb : DE W B X b tb) (hm : behindInMarks op b = false := by first | exact nomark _ | rfl) : DE W B X (.Compare a [op] [b] pos) (dOp p ta tb) := by
  obtain ⟨r, hr, l⟩ := ho
  exact ⟨pe_imp (pe_cmpR hr ha.run hb.run hm) fun σ H Q h => lift_op l h⟩
def dB (t : TD W) : TDB W := fun ρ s Q => t ρ s fun d s' => ∃ k, d = .bl k ∧ Q k s'
theorem Rp.blE {c : Cn} {H : Hp} {v : V} {k : Bool} (h : Rp c H v (.bl k)) : v = .bl k := by
  cases h
  rfl
theorem dt_cmp {op : CmpOp} {p : P2} (ho : OpD X (compareOp op) p) (ha : DE W B X a ta) (hb : DE W B X b tb) (hm : behindInMarks op b = false := by first | exact nomark _ | rfl) : DT W B X (.Compare a [op] [b] pos) (dB (dOp p ta tb)) := by
  obtain ⟨r, hr, l⟩ := ho
  refine ⟨pt_imp (pt_cmpR hr ha.run hb.run hm) fun σ H Q h => ?_⟩
  obtain ⟨Hs, ρ, s, R, S, h1, k⟩ := h
  refine lift_op (W := W) (B := B) (ta := ta) (tb := tb) l ⟨Hs, ρ, s, _, S, h1, fun d s' Hs' H' v hR g rv => ?_⟩
  obtain ⟨b, rfl, hq⟩ := hR
  exact ⟨b, rv.blE, k b s' Hs' H' hq g⟩
/-- an expression that gives a bool, as a test -/
theorem dt_val {t : TD W} (h : DE W B X e t) (he : ∀ whole, isTrue e X.env whole = (do let v ← whole; standAt e.pos; holding [v] (truthy v)) := by intro _; rfl) : DT W B X e (dB t) := by
  refine ⟨pt_imp (pt_val h.run he) fun σ H Q h => ?_⟩
  obtain ⟨Hs, ρ, s, R, S, h1, k⟩ := h
  refine ⟨Hs, ρ, s, _, S, h1, fun d s' Hs' H' v hR g rv => ?_⟩
  obtain ⟨b, rfl, hq⟩ := hR
  exact ⟨b, rv.blE, k b s' Hs' H' hq g⟩
/-- a op1 b op2 c -/
def dChain (p p' : P2) (ta tb tc : TD W) : TD W := fun ρ s Q => ta ρ s fun x s1 => tb ρ s1 fun y s2 => p x y fun d => ∃ k, d = .bl k ∧ if k = true then tc ρ s2 fun z s3 => p' y z fun d' => Q d' s3 else Q (.bl false) s2
theorem lift_chain {r r' : R2} {p p' : P2} (l : Lk2 X r p) (l' : Lk2 X r' p') {σ : St} {H : Hp} {Q : VK} (h : liftE (cn X) W B (dChain p p' ta tb tc) σ H Q) :
    tChain r r' (liftE (cn X) W B ta) (liftE (cn X) W B tb) (liftE (cn X) W B tc) σ H Q := by
  obtain ⟨Hs, ρ, s, R, S, h1, k⟩ := h
  refine ⟨Hs, ρ, s, _, S, h1, fun x s1 Hs1 H1 v hR g1 rv => ?_⟩
  refine ⟨Hs1, ρ, s1, _, S.step g1, hR, fun y s2 Hs2 H2 u hR2 g2 ru => ?_⟩
  refine l Hs2 H2 v u x y _ _ g2.sub (rv.same g2.fz) ru hR2 fun z Hs3 H3 w hz ly rz => ?_
  obtain ⟨b, rfl, hq⟩ := hz
  have g3 := ly.go g2.rel
  refine ⟨b, rz.blE, ?_⟩
  cases b with
  | false =>
    rw [if_neg Bool.false_ne_true] at hq ⊢
    exact k _ s2 Hs3 H3 _ hq (g1.trans (g2.trans g3)) (.bl false)
  | true =>
    rw [if_pos rfl] at hq ⊢
    refine ⟨Hs3, ρ, s2, _, ((S.step g1).step g2).step g3, hq, fun z s4 Hs4 H4 w4 hR4 g4 r4 => ?_⟩
    exact l' Hs4 H4 u w4 y z _ _ g4.sub ((ru.same g3.fz).same g4.fz) r4 hR4 fun z' Hs5 H5 w5 hz' ly5 r5 => k z' s4 Hs5 H5 w5 hz' (g1.trans (g2.trans (g3.trans (g4.trans (ly5.go g4.rel))))) r5
theorem de_chain {op op' : CmpOp} {p p' : P2} {c : Expr} (ho : OpD X (compareOp op) p) (ho' : OpD X (compareOp op') p') (ha : DE W B X a ta) (hb : DE W B X b tb) (hc : DE W B X c tc)
    (hm : lastMarks [op, op'] [b, c] = false := by with_unfolding_all rfl) : DE W B X (.Compare a [op, op'] [b, c] pos) (dChain p p' ta tb tc) := by
  obtain ⟨r, hr, l⟩ := ho
  obtain ⟨r', hr', l'⟩ := ho'
  exact ⟨pe_imp (pe_chain hr hr' ha.run hb.run hc.run hm) fun σ H Q h => lift_chain l l' h⟩
theorem dt_chain {op op' : CmpOp} {p p' : P2} {c : Expr} (ho : OpD X (compareOp op) p) (ho' : OpD X (compareOp op') p') (ha : DE W B X a ta) (hb : DE W B X b tb) (hc : DE W B X c tc)
    (hm : lastMarks [op, op'] [b, c] = false := by with_unfolding_all rfl) : DT W B X (.Compare a [op, op'] [b, c] pos) (dB (dChain p p' ta tb tc)) := by
  obtain ⟨r, hr, l⟩ := ho
  obtain ⟨r', hr', l'⟩ := ho'
  refine ⟨pt_imp (pt_chain hr hr' ha.run hb.run hc.run hm) fun σ H Q h => ?_⟩
  obtain ⟨Hs, ρ, s, R, S, h1, k⟩ := h
  refine lift_chain (W := W) (B := B) (ta := ta) (tb := tb) (tc := tc) l l' ⟨Hs, ρ, s, _, S, h1, fun d s' Hs' H' v hR g rv => ?_⟩
  obtain ⟨b, rfl, hq⟩ := hR
  exact ⟨b, rv.blE, k b s' Hs' H' hq g⟩
def dUn (p : P1) (ta : TD W) : TD W := fun ρ s Q => ta ρ s fun x s1 => p x fun d => Q d s1
theorem de_un {op : UnaryOp} {p : P1} (ho : UnD X (unaryOp op) p) (ha : DE W B X a ta) : DE W B X (.UnaryOp op a pos) (dUn p ta) := by
  obtain ⟨r, hr, l⟩ := ho
  refine ⟨pe_imp (pe_un hr ha.run) fun σ H Q h => ?_⟩
  obtain ⟨Hs, ρ, s, R, S, h1, k⟩ := h
  exact ⟨Hs, ρ, s, _, S, h1, fun x s1 Hs1 H1 v hR g1 rv => l Hs1 H1 v x _ _ g1.sub rv hR fun z Hs3 H3 w hz ly rz => k z s1 Hs3 H3 w hz (g1.trans (ly.go g1.rel)) rz⟩

/-! ### and, or, not, if -/
variable {tA tB : TDB W} {rest : List Expr}
def dAnd (t u : TDB W) : TDB W := fun ρ s Q => t ρ s fun c s1 => if c = true then u ρ s1 Q else Q false s1
def dOr (t u : TDB W) : TDB W := fun ρ s Q => t ρ s fun c s1 => if c = true then Q true s1 else u ρ s1 Q
def dNot (t : TDB W) : TDB W := fun ρ s Q => t ρ s fun c s1 => Q (!c) s1
theorem dw_pt (h : DW W B X e tA) : DT W B X e tA := ⟨h.run.pt⟩
theorem dw_and1 (ha : DT W B X a tA) : DW W B X (.BoolOp .And [a] pos) tA := ⟨pw_and1 ha.run⟩
theorem dw_or1 (ha : DT W B X a tA) : DW W B X (.BoolOp .Or [a] pos) tA := ⟨pw_or1 ha.run⟩
theorem dw_and (ha : DT W B X a tA) (hb : DW W B X (.BoolOp .And (b :: rest) pos) tB) : DW W B X (.BoolOp .And (a :: b :: rest) pos) (dAnd tA tB) := by
  refine ⟨pw_imp (pw_and ha.run hb.run) fun σ H Q h => ?_⟩
  obtain ⟨Hs, ρ, s, R, S, h1, k⟩ := h
  refine ⟨Hs, ρ, s, _, S, h1, fun c s1 Hs1 H1 hR g1 => ?_⟩
  cases c with
  | true =>
    rw [if_pos rfl] at hR ⊢
    exact ⟨Hs1, ρ, s1, _, S.step g1, hR, fun c s2 Hs2 H2 h2 g2 => k c s2 Hs2 H2 h2 (g1.trans g2)⟩
  | false =>
    rw [if_neg Bool.false_ne_true] at hR ⊢
    exact k _ s1 Hs1 H1 hR g1
theorem dw_or (ha : DT W B X a tA) (hb : DW W B X (.BoolOp .Or (b :: rest) pos) tB) : DW W B X (.BoolOp .Or (a :: b :: rest) pos) (dOr tA tB) := by
  refine ⟨pw_imp (pw_or ha.run hb.run) fun σ H Q h => ?_⟩
  obtain ⟨Hs, ρ, s, R, S, h1, k⟩ := h
  refine ⟨Hs, ρ, s, _, S, h1, fun c s1 Hs1 H1 hR g1 => ?_⟩
  cases c with
  | false =>
    rw [if_neg Bool.false_ne_true] at hR ⊢
    exact ⟨Hs1, ρ, s1, _, S.step g1, hR, fun c s2 Hs2 H2 h2 g2 => k c s2 Hs2 H2 h2 (g1.trans g2)⟩
  | true =>
    rw [if_pos rfl] at hR ⊢
    exact k _ s1 Hs1 H1 hR g1
theorem dt_not (ha : DT W B X a tA) : DT W B X (.UnaryOp .Not a pos) (dNot tA) := by
  refine ⟨pt_imp (pt_not ha.run) fun σ H Q h => ?_⟩
  obtain ⟨Hs, ρ, s, R, S, h1, k⟩ := h
  exact ⟨Hs, ρ, s, _, S, h1, fun c s1 Hs1 H1 hR g1 => k _ s1 Hs1 H1 hR g1⟩
/-- .. as values -/
def dAndV (ta tb : TD W) : TD W := fun ρ s Q => ta ρ s fun x s1 => ∃ c, x = .bl c ∧ if c = true then tb ρ s1 Q else Q (.bl false) s1
def dOrV (ta tb : TD W) : TD W := fun ρ s Q => ta ρ s fun x s1 => ∃ c, x = .bl c ∧ if c = true then Q (.bl true) s1 else tb ρ s1 Q
def dNotV (ta : TD W) : TD W := fun ρ s Q => ta ρ s fun x s1 => ∃ c, x = .bl c ∧ Q (.bl (!c)) s1
theorem de_one {op : BoolOp} {t : TD W} (h : DE W B X a t) : DE W B X (.BoolOp op [a] pos) t := ⟨pe_one h.run⟩
theorem de_and (ha : DE W B X a ta) (hb : DE W B X (.BoolOp .And (b :: rest) pos) tb) : DE W B X (.BoolOp .And (a :: b :: rest) pos) (dAndV ta tb) := by
  refine ⟨pe_imp (pe_and ha.run hb.run) fun σ H Q h => ?_⟩
  obtain ⟨Hs, ρ, s, R, S, h1, k⟩ := h
  refine ⟨Hs, ρ, s, _, S, h1, fun d s1 Hs1 H1 v hR g1 rv => ?_⟩
  obtain ⟨c, rfl, hR⟩ := hR
  refine ⟨c, rv.blE, ?_⟩
  cases c with
  | true =>
    rw [if_pos rfl] at hR ⊢
    exact ⟨Hs1, ρ, s1, _, S.step g1, hR, fun d s2 Hs2 H2 v2 h2 g2 r2 => k d s2 Hs2 H2 v2 h2 (g1.trans g2) r2⟩
  | false =>
    rw [if_neg Bool.false_ne_true] at hR ⊢
    exact k _ s1 Hs1 H1 _ hR g1 (.bl false)
theorem de_or (ha : DE W B X a ta) (hb : DE W B X (.BoolOp .Or (b :: rest) pos) tb) : DE W B X (.BoolOp .Or (a :: b :: rest) pos) (dOrV ta tb) := by
  refine ⟨pe_imp (pe_or ha.run hb.run) fun σ H Q h => ?_⟩
  obtain ⟨Hs, ρ, s, R, S, h1, k⟩ := h
  refine ⟨Hs, ρ, s, _, S, h1, fun d s1 Hs1 H1 v hR g1 rv => ?_⟩
  obtain ⟨c, rfl, hR⟩ := hR
  refine ⟨c, rv.blE, ?_⟩
  cases c with
  | false =>
    rw [if_neg Bool.false_ne_true] at hR ⊢
    exact ⟨Hs1, ρ, s1, _, S.step g1, hR, fun d s2 Hs2 H2 v2 h2 g2 r2 => k d s2 Hs2 H2 v2 h2 (g1.trans g2) r2⟩
  | true =>
    rw [if_pos rfl] at hR ⊢
    exact k _ s1 Hs1 H1 _ hR g1 (.bl true)
theorem de_not (ha : DE W B X a ta) : DE W B X (.UnaryOp .Not a pos) (dNotV ta) := by
  refine ⟨pe_imp (pe_not ha.run) fun σ H Q h => ?_⟩
  obtain ⟨Hs, ρ, s, R, S, h1, k⟩ := h
  refine ⟨Hs, ρ, s, _, S, h1, fun d s1 Hs1 H1 v hR g1 rv => ?_⟩
  obtain ⟨c, rfl, hR⟩ := hR
  exact ⟨c, rv.blE, k _ s1 Hs1 H1 _ hR g1 (.bl _)⟩
def dIf (t : TDB W) (ta tb : TD W) : TD W := fun ρ s Q => t ρ s fun c s1 => if c = true then ta ρ s1 Q else tb ρ s1 Q
theorem de_if {c : Expr} (hc : DT W B X c tA) (ha : DE W B X a ta) (hb : DE W B X b tb) : DE W B X (.IfExp c a b pos) (dIf tA ta tb) := by
  refine ⟨pe_imp (pe_ifExp hc.run ha.run hb.run) fun σ H Q h => ?_⟩
  obtain ⟨Hs, ρ, s, R, S, h1, k⟩ := h
  refine ⟨Hs, ρ, s, _, S, h1, fun c s1 Hs1 H1 hR g1 => ?_⟩
  cases c with
  | true =>
    rw [if_pos rfl] at hR ⊢
    exact ⟨Hs1, ρ, s1, _, S.step g1, hR, fun d s2 Hs2 H2 v2 h2 g2 r2 => k d s2 Hs2 H2 v2 h2 (g1.trans g2) r2⟩
  | false =>
    rw [if_neg Bool.false_ne_true] at hR ⊢
    exact ⟨Hs1, ρ, s1, _, S.step g1, hR, fun d s2 Hs2 H2 v2 h2 g2 r2 => k d s2 Hs2 H2 v2 h2 (g1.trans g2) r2⟩

/-! ### arguments, displays -/
variable {es : List Expr} {te : TD W} {t : TDA W}
def dNil : TDA W := fun _ s Q => Q [] s
def dCons (te : TD W) (t : TDA W) : TDA W := fun ρ s Q => te ρ s fun x s1 => t ρ s1 fun xs s2 => Q (x :: xs) s2
theorem da_nil : DA W B X [] dNil := ⟨pa_imp pa_nil fun σ H Q ⟨Hs, ρ, s, R, S, h1, k⟩ => k [] s Hs H [] h1 (Go.refl S.sub S.rel) .nil⟩
theorem da_cons (he : DE W B X e te) (hr : DA W B X es t) (hs : starEach (e :: es) X.env = (false, eval e X.env) :: starEach es X.env := by rfl) : DA W B X (e :: es) (dCons te t) := by
  refine ⟨pa_imp (pa_cons he.run hr.run hs) fun σ H Q h => ?_⟩
  obtain ⟨Hs, ρ, s, R, S, h1, k⟩ := h
  refine ⟨Hs, ρ, s, _, S, h1, fun x s1 Hs1 H1 v hR g1 rv => ?_⟩
  refine ⟨Hs1, ρ, s1, _, S.step g1, hR, fun xs s2 Hs2 H2 vs hR2 g2 rs => ?_⟩
  exact k _ s2 Hs2 H2 _ hR2 (g1.trans g2) (.cons (rv.same g2.fz) rs)
def dTup (t : TDA W) : TD W := fun ρ s Q => t ρ s fun xs s1 => xs.length ≤ sizeLine ∧ Q (.tup xs) s1
def dLst (t : TDA W) : TD W := fun ρ s Q => t ρ s fun xs s1 => xs.length ≤ sizeLine ∧ Q (.lst xs) s1
theorem Rp.tupN {c : Cn} {Hs : Hp} {p : Addr} {vs : List V} {xs : List D} (hp : Hs p = none) (z : xs.length ≤ sizeLine) (r : RpA c Hs vs xs) : Rp c (upd Hs p (.tup vs)) (.ref p) (.tup xs) := .tup z (SqT.of upd_same) (r.same (Same.updR hp))
theorem Rp.lstN {c : Cn} {Hs : Hp} {p : Addr} {vs : List V} {xs : List D} (hp : Hs p = none) (z : xs.length ≤ sizeLine) (r : RpA c Hs vs xs) : Rp c (upd Hs p (.lst vs)) (.ref p) (.lst xs) := .lst z (SqL.of upd_same) (r.same (Same.updR hp))
theorem de_tup {x1 : Nat} (h : DA W B X es t) : DE W B X (.Tuple es x1 pos) (dTup t) := by
  refine ⟨pe_imp (pe_tup h.run) fun σ H Q h => ?_⟩
  obtain ⟨Hs, ρ, s, R, S, h1, k⟩ := h
  refine ⟨Hs, ρ, s, _, S, h1, fun xs s1 Hs1 H1 vs hR g1 rs => ?_⟩
  obtain ⟨hz, hq⟩ := hR
  refine ⟨by rw [rs.length]; exact hz, fun p hp => ?_⟩
  exact k _ s1 _ _ _ hq (g1.trans ((Lay.one g1.sub hp).go g1.rel)) (.tupN (g1.sub.free hp) hz rs)
theorem de_lst (h : DA W B X es t) : DE W B X (.List es pos) (dLst t) := by
  refine ⟨pe_imp (pe_lst h.run) fun σ H Q h => ?_⟩
  obtain ⟨Hs, ρ, s, R, S, h1, k⟩ := h
  refine ⟨Hs, ρ, s, _, S, h1, fun xs s1 Hs1 H1 vs hR g1 rs => ?_⟩
  obtain ⟨hz, hq⟩ := hR
  refine ⟨by rw [rs.length]; exact hz, fun p hp => ?_⟩
  exact k _ s1 _ _ _ hq (g1.trans ((Lay.one g1.sub hp).go g1.rel)) (.lstN (g1.sub.free hp) hz rs)

/-! ### calls -/
/-- a built-in's call -/
def dCallP (p : PL) (t : TDA W) : TD W := fun ρ s Q => t ρ s fun ds s1 => p ds fun d => Q d s1
theorem lift_callP {r : List V → Hp → VK → Prop} {p : PL} (l : LkL X r p) {σ : St} {H : Hp} {Q : VK} (h : liftE (cn X) W B (dCallP p t) σ H Q) : tCB r (liftA (cn X) W B t) σ H Q := by
  obtain ⟨Hs, ρ, s, R, S, h1, k⟩ := h
  exact ⟨Hs, ρ, s, _, S, h1, fun ds s1 Hs1 H1 vs hR g1 rv => l Hs1 H1 vs ds _ _ g1.sub rv hR fun z Hs3 H3 w hz ly rz => k z s1 Hs3 H3 w hz (g1.trans (ly.go g1.rel)) rz⟩
theorem de_callB {x : Str} {p' : Pos} {id : String} {p : PL} (hc : CallD X (.builtin id) p) (hg : Gl X x) (hm : X.mg x = none) (hv : bootBuiltins x = some (.builtin id)) (ha : DA W B X (e :: es) t) (hn : x ≠ "__name__" := by decide) (hdb : (x == ("__debug__" : Str)) = false := by decide)
    (he : starEach (e :: es) X.env = (false, eval e X.env) :: starEach es X.env := by rfl) (hpl : (backTo pos (starEach es X.env)).any (·.1) = false := by rfl) : DE W B X (.Call (.Name x p') (e :: es) [] pos) (dCallP p t) := by
  obtain ⟨r, hr, l⟩ := hc
  exact ⟨pe_imp (pe_callB hr hg hm hv ha.run hn hdb he hpl) fun σ H Q h => lift_callP l h⟩
theorem de_callTy {x : Str} {p' : Pos} {T : String} {p : PL} (hc : CallD X (.type T) p) (hg : Gl X x) (hm : X.mg x = none) (hv : bootBuiltins x = some (.type T)) (ha : DA W B X (e :: es) t) (hn : x ≠ "__name__" := by decide) (hdb : (x == ("__debug__" : Str)) = false := by decide)
    (he : starEach (e :: es) X.env = (false, eval e X.env) :: starEach es X.env := by rfl) (hpl : (backTo pos (starEach es X.env)).any (·.1) = false := by rfl) : DE W B X (.Call (.Name x p') (e :: es) [] pos) (dCallP p t) := by
  obtain ⟨r, hr, l⟩ := hc
  exact ⟨pe_imp (pe_callTy hr hg hm hv ha.run hn hdb he hpl) fun σ H Q h => lift_callP l h⟩

/-- a def's promise over data: n arguments -/
abbrev OkD (W : Wld) := List D → W.S → (D → W.S → Prop) → Prop
def spD (c : Cn) (W : Wld) (n : Nat) (ok : OkD W) : Sp := fun vs H Q _ => ∃ Hs s ds R, W.rel s Hs H ∧ Same Hs H ∧ RpA c Hs vs ds ∧ ds.length = n ∧ ok ds s R ∧ Aft c W s Hs H R Q
def spP (c : Cn) (n : Nat) (ok : PL) : Sp := fun vs H Q _ => ∃ Hs ds R, Same Hs H ∧ RpA c Hs vs ds ∧ ds.length = n ∧ ok ds R ∧ AftP c Hs H R Q
def lfP (W : Wld) (ok : PL) : OkD W := fun ds s R => ok ds fun d => R d s
theorem spD_of_P {c : Cn} {W : Wld} {n : Nat} {ok : PL} {vs : List V} {H : Hp} {Q : VK} {E : XK} (h : spD c W n (lfP W ok) vs H Q E) : spP c n ok vs H Q E := by
  obtain ⟨Hs, s, ds, R, hr, hs, ra, hn, ho, k⟩ := h
  exact ⟨Hs, ds, _, hs, ra, hn, ho, fun d Hs' H' v hd l r => k d s Hs' H' v hd (l.go hr) r⟩
theorem spP_of_D {c : Cn} {n : Nat} {ok : PL} {vs : List V} {H : Hp} {Q : VK} {E : XK} (h : spP c n ok vs H Q E) : spD c W0 n (lfP W0 ok) vs H Q E := by
  obtain ⟨Hs, ds, R, hs, ra, hn, ho, k⟩ := h
  exact ⟨Hs, (), ds, fun d _ => R d, trivial, hs, ra, hn, ho, fun d s' Hs' H' v hd g r => k d Hs' H' v hd g.lay r⟩
def dCall (n : Nat) (ok : OkD W) (t : TDA W) : TD W := fun ρ s Q => t ρ s fun ds s1 => ds.length = n ∧ ok ds s1 Q
section
variable {k n : Nat} {f : Addr} {fd : FuncData} {ps : List Str} {ok : OkD W} {x : Str} {p' : Pos}
theorem lift_call {σ : St} {H : Hp} {Q : VK} (h : liftE (cn X) W B (dCall n ok t) σ H Q) : tCall (spD (cn X) W n ok) [] E0 (liftA (cn X) W B t) σ H Q := by
  obtain ⟨Hs, ρ, s, R, S, h1, k⟩ := h
  refine ⟨Hs, ρ, s, _, S, h1, fun ds s1 Hs1 H1 vs hR g1 rv => ?_⟩
  obtain ⟨hn, ho⟩ := hR
  exact ⟨Hs1, s1, ds, _, g1.rel, g1.sub, by rw [List.append_nil]; exact rv, hn, ho, fun d s2 Hs2 H2 v hd g2 r => k d s2 Hs2 H2 v hd (g1.trans g2) r⟩
theorem de_call (F : FnOk X.prog X.w X.K X.mg X.base CX0 k f fd ps (spD (cn X) W n ok)) (hr : Room k X.A) (hg : Gl X x) (hm : X.mg x = some (.ref f)) (hk : PySem.W.keepIn X.K (.ref f) = true) (hb : Binds X.K fd ps [])
    (ha : DA W B X (e :: es) t) (hdb : (x == ("__debug__" : Str)) = false := by decide) (he : starEach (e :: es) X.env = (false, eval e X.env) :: starEach es X.env := by rfl) (hpl : (backTo pos (starEach es X.env)).any (·.1) = false := by rfl) :
    DE W B X (.Call (.Name x p') (e :: es) [] pos) (dCall n ok t) :=
  ⟨pe_imp (pe_call F hr hg hm hk hb .nil pass0 ha.run hdb he hpl) fun σ H Q h => lift_call h⟩
end
theorem FnOk.toW {P : Program} {w : World} {K : PySem.W.Frag} {mg : Str → Option Value} {base : Heap} {k n : Nat} {f : Addr} {fd : FuncData} {ps : List Str} {ok : PL} {c : Cn} (W : Wld) (F : FnOk P w K mg base CX0 k f fd ps (spP c n ok)) :
    FnOk P w K mg base CX0 k f fd ps (spD c W n (lfP W ok)) := F.imp fun _ _ _ _ h => spD_of_P h
theorem FnOk.toP {P : Program} {w : World} {K : PySem.W.Frag} {mg : Str → Option Value} {base : Heap} {k n : Nat} {f : Addr} {fd : FuncData} {ps : List Str} {ok : PL} {c : Cn} (F : FnOk P w K mg base CX0 k f fd ps (spD c W0 n (lfP W0 ok))) :
    FnOk P w K mg base CX0 k f fd ps (spP c n ok) := F.imp fun _ _ _ _ h => spP_of_D h

/-! ### subscripts -/
def dIx (p : P2) (ta tb : TD W) : TD W := dOp p ta tb
def IxD (X : Cx) (p : P2) : Prop := ∃ r, IxR X r ∧ Lk2 X r p
theorem de_ix {p : P2} (ho : IxD X p) (ha : DE W B X a ta) (hb : DE W B X b tb) (hs : PlainIx b := by exact fun _ _ => rfl) : DE W B X (.Subscript a b pos) (dOp p ta tb) := by
  obtain ⟨r, hr, l⟩ := ho
  exact ⟨pe_imp (pe_ix hr ha.run hb.run hs) fun σ H Q h => lift_op l h⟩
/-- a part of a slice -/
abbrev TDO (W : Wld) := Env → W.S → (Option Int → W.S → Prop) → Prop
def liftO (c : Cn) (W : Wld) (B : Bs W) (t : TDO W) : TO := fun σ H Q => ∃ Hs ρ s R, Stt c W B σ H ρ s Hs ∧ t ρ s R ∧ ∀ o s' Hs' H', R o s' → Go W s Hs H s' Hs' H' → Q o H'
structure DO (W : Wld) (B : Bs W) (X : Cx) (e : Option Expr) (t : TDO W) : Prop where
  run : PO X e (liftO (cn X) W B t)
def dNoPart : TDO W := fun _ s Q => Q none s
def dPart (t : TD W) : TDO W := fun ρ s Q => t ρ s fun d s1 => ∃ i, d = .int i ∧ Q (some i) s1
theorem po_imp {o : Option Expr} {t t' : TO} (h : PO X o t) (f : ∀ σ H Q, t' σ H Q → t σ H Q) : PO X o t' := ⟨fun pins s σ H Q I w => h.run pins s σ H Q I (f _ _ _ w)⟩
theorem do_none : DO W B X none dNoPart := ⟨po_imp po_none fun σ H Q ⟨Hs, ρ, s, R, S, h1, k⟩ => k none s Hs H h1 (Go.refl S.sub S.rel)⟩
theorem Rp.intE {c : Cn} {H : Hp} {v : V} {i : Int} (h : Rp c H v (.int i)) : v = .int i := by
  cases h
  rfl
theorem do_some (h : DE W B X e te) : DO W B X (some e) (dPart te) := by
  refine ⟨po_imp (po_some h.run) fun σ H Q h => ?_⟩
  obtain ⟨Hs, ρ, s, R, S, h1, k⟩ := h
  refine ⟨Hs, ρ, s, _, S, h1, fun d s1 Hs1 H1 v hR g1 rv => ?_⟩
  obtain ⟨i, rfl, hq⟩ := hR
  exact ⟨i, rv.intE, k _ s1 Hs1 H1 hq g1⟩
def LkS (X : Cx) (r : V → Option Int → Option Int → Hp → VK → Prop) (p : D → Option Int → Option Int → (D → Prop) → Prop) : Prop := ∀ Hs H x lo hi d R Q, Same Hs H → Rp (cn X) Hs x d → p d lo hi R → AftP (cn X) Hs H R Q → r x lo hi H Q
def SlD (X : Cx) (p : D → Option Int → Option Int → (D → Prop) → Prop) : Prop := ∃ r, SlR X r ∧ LkS X r p
def dSl (p : D → Option Int → Option Int → (D → Prop) → Prop) (te : TD W) (tl th : TDO W) : TD W := fun ρ s Q => te ρ s fun x s1 => tl ρ s1 fun lo s2 => th ρ s2 fun hi s3 => p x lo hi fun d => Q d s3
theorem de_slice {p : D → Option Int → Option Int → (D → Prop) → Prop} {lo hi : Option Expr} {p2 : Pos} {tl th : TDO W} (hp : SlD X p) (he : DE W B X e te) (hl : DO W B X lo tl) (hh : DO W B X hi th) : DE W B X (.Subscript e (.Slice lo hi none p2) pos) (dSl p te tl th) := by
  obtain ⟨r, hr, l⟩ := hp
  refine ⟨pe_imp (pe_slice hr he.run hl.run hh.run) fun σ H Q h => ?_⟩
  obtain ⟨Hs, ρ, s, R, S, h1, k⟩ := h
  refine ⟨Hs, ρ, s, _, S, h1, fun x s1 Hs1 H1 v hR g1 rv => ?_⟩
  refine ⟨Hs1, ρ, s1, _, S.step g1, hR, fun i s2 Hs2 H2 hR2 g2 => ?_⟩
  refine ⟨Hs2, ρ, s2, _, (S.step g1).step g2, hR2, fun j s3 Hs3 H3 hR3 g3 => ?_⟩
  exact l Hs3 H3 v i j x _ _ g3.sub ((rv.same g2.fz).same g3.fz) hR3 fun z Hs4 H4 w hz ly rz => k z s3 Hs4 H4 w hz (g1.trans (g2.trans (g3.trans (ly.go g3.rel)))) rz
/-- a method of a built-in type, its object data -/
theorem bm_imp {t t' : TE} (h : PE X e t) (f : ∀ σ H Q, t' σ H Q → t σ H Q) : PE X e t' := pe_imp h f
end
end Dv

set_option Elab.async false
set_option linter.all false
set_option maxRecDepth 100000
/-! What is walked, comprehensions, over data. -/
namespace Dv
open PySem L2

/-- the iterator J walks the data xs, whatever comes on -/
structure WalkD (c : Cn) (Hs0 : Hp) (J : It) (xs : List D) : Prop where
  go : ∀ i Hs H, Same Hs0 Hs → Same Hs H → i < xs.length → J.go i H
  stop : ∀ Hs H, Same Hs0 Hs → Same Hs H → J.stop xs.length H
  yld : ∀ i d Hs H x H', Same Hs0 Hs → Same Hs H → xs[i]? = some d → J.yld i H x H' → ∃ Hs', Lay Hs H Hs' H' ∧ Rp c Hs' x d
theorem WalkD.list {c : Cn} {Hs0 : Hp} {a : Addr} {vs : List V} {xs : List D} (h : SqL c.K Hs0 a vs) (r : RpA c Hs0 vs xs) : WalkD c Hs0 (Itl c.K a) xs where
  go := fun i Hs H s1 s2 hi => by
    obtain ⟨v, hv, _⟩ := r.get (List.getElem?_eq_getElem hi)
    exact ⟨vs, v, s2.seq (s1.seq h), hv⟩
  stop := fun Hs H s1 s2 => ⟨vs, s2.seq (s1.seq h), by rw [r.length]; exact Nat.le_refl _⟩
  yld := fun i d Hs H x H' s1 s2 hd ⟨e, hy⟩ => by
    subst e
    obtain ⟨v, hv, rv⟩ := r.get hd
    have q := hy vs (s2.seq (s1.seq h))
    rw [hv] at q
    cases q
    exact ⟨Hs, Lay.refl s2, rv.same s1⟩
theorem WalkD.tup {c : Cn} {Hs0 : Hp} {a : Addr} {vs : List V} {xs : List D} (h : SqT c.K Hs0 a vs) (r : RpA c Hs0 vs xs) : WalkD c Hs0 (Itt c.K a) xs where
  go := fun i Hs H s1 s2 hi => by
    obtain ⟨v, hv, _⟩ := r.get (List.getElem?_eq_getElem hi)
    exact ⟨vs, v, SqT_same s2 (SqT_same s1 h), hv⟩
  stop := fun Hs H s1 s2 => ⟨vs, SqT_same s2 (SqT_same s1 h), by rw [r.length]; exact Nat.le_refl _⟩
  yld := fun i d Hs H x H' s1 s2 hd ⟨e, hy⟩ => by
    subst e
    obtain ⟨v, hv, rv⟩ := r.get hd
    have q := hy vs (SqT_same s2 (SqT_same s1 h))
    rw [hv] at q
    cases q
    exact ⟨Hs, Lay.refl s2, rv.same s1⟩
/-- the signs of a text -/
def signsD (x : Str) : List D := x.cps.toList.map fun k => .str ⟨#[k]⟩
theorem WalkD.str {c : Cn} {Hs0 : Hp} (x : Str) : WalkD c Hs0 (Its x) (signsD x) where
  go := fun i Hs H _ _ hi => by
    show i < x.cps.size
    simpa [signsD] using hi
  stop := fun Hs H _ _ => by
    show x.cps.size ≤ (signsD x).length
    simp [signsD]
  yld := fun i d Hs H v H' s1 s2 hd ⟨e, k, hk, hv⟩ => by
    subst e hv
    have : (signsD x)[i]? = some (.str ⟨#[k]⟩) := by
      unfold signsD
      rw [List.getElem?_map, Array.getElem?_toList, hk]
      rfl
    rw [this] at hd
    cases hd
    exact ⟨Hs, Lay.refl s2, .str (by show 1 ≤ sizeLine; decide)⟩
def rangeD (lo : Int) (n : Nat) : List D := (List.range n).map fun k => .int (lo + (k : Nat))
theorem WalkD.range {c : Cn} {Hs0 : Hp} (lo : Int) (n : Nat) : WalkD c Hs0 (Itr lo n) (rangeD lo n) where
  go := fun i Hs H _ _ hi => by
    show i < n
    simpa [rangeD] using hi
  stop := fun Hs H _ _ => by
    show n ≤ (rangeD lo n).length
    simp [rangeD]
  yld := fun i d Hs H v H' s1 s2 hd ⟨e, hv⟩ => by
    subst e hv
    have hi : i < n := by
      have := (List.getElem?_eq_some_iff.mp hd).1
      simpa [rangeD] using this
    have : (rangeD lo n)[i]? = some (.int (lo + (i : Nat))) := by
      unfold rangeD
      rw [List.getElem?_map, List.getElem?_range hi]
      rfl
    rw [this] at hd
    cases hd
    exact ⟨Hs, Lay.refl s2, .int _⟩

/-! ### a dict by its keys -/
/-- the keys of the very dict o at d -/
def Ikx (d : Addr) (o : Obj) (es : List DictEntry) : It :=
  ⟨fun i H => H d = some (.ext (DAt d o)) ∧ i < es.length, fun i H x H' => H' = H ∧ ∃ e, es[i]? = some e ∧ RelV x e.key, fun i H => H d = some (.ext (DAt d o)) ∧ es.length ≤ i⟩
theorem Inv.dat {X : Cx} {pins : List (Addr × Obj)} {σ : L2.St} {H : Hp} {s : Shared} {d : Addr} {o : Obj} (I : Inv X pins σ H s) (h : H d = some (.ext (DAt d o))) : s.heap.get? d = some o := by
  obtain ⟨p, _⟩ := I.hok d _ h
  exact p
theorem turn_kx {P : Program} {w : World} {K : PySem.W.Frag} {tg : Expr} {d : Addr} {o : Obj} {es : List DictEntry} (it : Addr) {ep : Nat} (hod : o.data = .dict es.toArray ep) (hex : o.ExactDict) (hv : ∀ e ∈ es, ∃ x, RelV x e.key) :
    Turn P w K tg (Ikx d o es) [it] it (fun i h => h.IsKeyIter it d i es.length ep) where
  mem := by simp
  obj := fun i h st b hb => by
    have e : b = it := by simpa using hb
    subst e
    obtain ⟨oi, e, c, dd⟩ := st
    exact ⟨oi, e, fun v z => by rw [dd] at z; cases z⟩
  keep := fun i h h' st k => st.at fun oi e => k it (by simp) oi e
  item := by
    intro X hP hw hK hc i pins s σ H E I hf st hg
    subst hP hw hK
    obtain ⟨hd, hi⟩ := hg
    obtain ⟨f0, f1, f2, f3, f4, f5⟩ := hf it (by simp)
    have hm : s.heap.DictRaw d es.toArray ep := ⟨o, Inv.dat I hd, hex, hod⟩
    have st2 : s.heap.IsKeyIter it d i es.toArray.size ep := by simpa using st
    refine wpAny_pyNext_keys_item_raw st2 hm (by simpa using hi) fun h' st' sb => ?_
    have I1 : Inv X pins σ H { s with heap := h' } := I.turned (t' := s.toks) (fun b ob hb e => (sb.2 b hb).trans e) f0 f1 f3 f4 f5
    obtain ⟨x, hx⟩ := hv es[i] (List.getElem_mem hi)
    obtain ⟨oi, e, cc, dd⟩ := id st'
    refine ⟨_, rfl, go_of (s := { s with heap := h' }) e cc dd (by decide) ⟨x, H, I1, by simpa using hx, ⟨rfl, es[i], List.getElem?_eq_getElem hi, hx⟩, by simpa using st', fun b hb => (hf b hb).1⟩⟩
  done := by
    intro X hP hw hK hc i pins s σ H E I hf st hg
    subst hP hw hK
    obtain ⟨hd, hi⟩ := hg
    obtain ⟨f0, f1, f2, f3, f4, f5⟩ := hf it (by simp)
    have hm : s.heap.DictRaw d es.toArray ep := ⟨o, Inv.dat I hd, hex, hod⟩
    have st2 : s.heap.IsKeyIter it d i es.toArray.size ep := by simpa using st
    exact wpAny_pyNext_keys_end_raw (I.ok.hd hc) st2 hm (by simpa using hi) fun h' eb => ⟨rfl, I.turned (t' := s.toks) (fun b ob hb e => eb b ob hb e) f0 f1 f3 f4 f5⟩
  self := fun A i s Q E st h => wpAny_pyIter_keyiter st h
theorem RpE.length {c : Cn} {H : Hp} : ∀ {es : List DictEntry} {kvs : List (D × D)}, RpE c H es kvs → es.length = kvs.length
  | _, _, .nil => rfl
  | _, _, .cons _ _ _ _ _ _ t => by rw [List.length_cons, List.length_cons, RpE.length t]
theorem RpE.keyAt {c : Cn} {H : Hp} : ∀ {es : List DictEntry} {kvs : List (D × D)} {i : Nat} {e : DictEntry}, RpE c H es kvs → es[i]? = some e → ∃ k d v u, kvs[i]? = some (k, d) ∧ RelV v e.key ∧ Rp c H v k ∧ RelV u e.val ∧ Rp c H u d
  | _, _, _, _, .nil, h => by simp at h
  | _, _, 0, e, .cons a b _ _ f g _, h => by
    simp at h
    subst h
    exact ⟨_, _, _, _, rfl, a, b, f, g⟩
  | _, _, i + 1, e, .cons _ _ _ _ _ _ t, h => by
    obtain ⟨k, d, v, u, q⟩ := RpE.keyAt (i := i) t (by simpa using h)
    exact ⟨k, d, v, u, by simpa using q⟩
theorem WalkD.keys {c : Cn} {Hs0 : Hp} {d : Addr} {o : Obj} {es : List DictEntry} {kvs : List (D × D)} (h : Hs0 d = some (.ext (DAt d o))) (r : RpE c Hs0 es kvs) : WalkD c Hs0 (Ikx d o es) (kvs.map (·.1)) where
  go := fun i Hs H s1 s2 hi => ⟨s2 _ _ (s1 _ _ h), by
    rw [List.length_map, ← r.length] at hi
    exact hi⟩
  stop := fun Hs H s1 s2 => ⟨s2 _ _ (s1 _ _ h), by rw [List.length_map, ← r.length]; exact Nat.le_refl _⟩
  yld := fun i k Hs H x H' s1 s2 hd ⟨e, en, he, hv⟩ => by
    subst e
    obtain ⟨k', d', v, u, h1, h2, h3, _⟩ := r.keyAt he
    rw [List.getElem?_map, h1] at hd
    cases hd
    have := hv.inj h2
    subst this
    exact ⟨Hs, Lay.refl s2, h3.same s1⟩

/-! ### the judgement -/
abbrev TDI (W : Wld) := Env → W.S → (List D → W.S → Prop) → Prop
def liftI (c : Cn) (W : Wld) (B : Bs W) (t : TDI W) : TI := fun σ H R => ∃ Hs ρ s R', Stt c W B σ H ρ s Hs ∧ t ρ s R' ∧ ∀ xs s' Hs' H' J, R' xs s' → Go W s Hs H s' Hs' H' → WalkD c Hs' J xs → R J H'
structure DI (W : Wld) (B : Bs W) (X : Cx) (tg e : Expr) (t : TDI W) : Prop where
  run : PI X tg e (liftI (cn X) W B t)
/-- the items of a datum -/
def itemsD : D → Option (List D)
  | .tup xs => some xs
  | .lst xs => some xs
  | .str x => some (signsD x)
  | .dic kvs => some (kvs.map (·.1))
  | _ => none
def dItems {W : Wld} (t : TD W) : TDI W := fun ρ s Q => t ρ s fun d s1 => ∃ xs, itemsD d = some xs ∧ (xs.length ≤ sizeLine → Q xs s1)
section
variable {W : Wld} {B : Bs W} {X : Cx} {tg e : Expr} {t : TD W} {pos : Pos}
/-- a value walked: a list, a tuple, a text, a dict -/
theorem di_val (h : DE W B X e t) : DI W B X tg e (dItems t) := by
  refine ⟨⟨fun pins s σ H R I hw => ?_⟩⟩
  obtain ⟨Hs, ρ, st, R', S, h1, k⟩ := hw
  refine thn (h.run.run pins s σ H (fun v H' => ∃ d s' Hs' xs, Go W st Hs H s' Hs' H' ∧ Rp (cn X) Hs' v d ∧ itemsD d = some xs ∧ (xs.length ≤ sizeLine → R' xs s')) I ⟨Hs, ρ, st, _, S, h1, fun d s' Hs' H' v hd g r => by
    obtain ⟨xs, e1, e2⟩ := hd
    exact ⟨d, s', Hs', xs, g, r, e1, e2⟩⟩) fun u s1 ⟨v, H1, I1, rv, d, s', Hs', xs, g, r, e1, e2⟩ => ?_
  cases r with
  | tup z hq ra =>
    cases e1
    cases rv
    obtain ⟨its, rv, p, hz⟩ := I1.tuple (SqT_same g.sub hq)
    refine wpAny_pyIter_tuple (show s1.heap.IsTuple _ its.toArray from p) ?_
    exact pi_one (tk := s1.toks) I1 _ (turn_tuple _ _) ⟨_, Heap.get?_push_size _ rfl, rfl, rfl⟩ (k _ s' Hs' H1 _ (e2 z) g (.tup hq ra))
  | lst z hq ra =>
    cases e1
    cases rv
    obtain ⟨its, rv, p, hz⟩ := I1.list (g.sub.seq hq)
    refine wpAny_pyIter_list p.isList ?_
    exact pi_one (tk := s1.toks) I1 _ (turn_list _ _) ⟨_, Heap.get?_push_size _ rfl, rfl, rfl⟩ (k _ s' Hs' H1 _ (e2 z) g (.list hq ra))
  | @str x z =>
    cases e1
    obtain ⟨tk, rfl⟩ := rv
    have q := k _ s' Hs' H1 _ (e2 (by simpa [signsD, Str.length] using z)) g (.str x)
    cases ha : x.cps.all (· < 128)
    · exact wpAny_pyIter_wide ha (pi_one (tk := s1.toks) I1 _ (turn_str _ x tk "str_iterator" (.inr rfl)) ⟨_, Heap.get?_push_size _ rfl, rfl, rfl⟩ q)
    · exact wpAny_pyIter_ascii ha (pi_one (tk := s1.toks) I1 _ (turn_str _ x tk "str_ascii_iterator" (.inl rfl)) ⟨_, Heap.get?_push_size _ rfl, rfl, rfl⟩ q)
  | @dic a o es kvs hd fx re nd =>
    cases e1
    cases rv
    obtain ⟨ep, hdt⟩ := fx.dt
    have hd1 := g.sub _ _ hd
    have hm : s1.heap.DictRaw a es.toArray ep := ⟨o, Inv.dat I1 hd1, fx.ex, hdt⟩
    have hvk : ∀ e ∈ es, ∃ x, RelV x e.key := fun e he => by
      obtain ⟨i, hi⟩ := List.mem_iff_getElem?.mp he
      obtain ⟨_, _, v, _, _, q, _⟩ := re.keyAt hi
      exact ⟨v, q⟩
    refine wpAny_pyIter_dict_raw fx.ns hm (pi_one (tk := s1.toks) I1 _ (turn_kx _ hdt fx.ex hvk) ⟨_, Heap.get?_push_size _ rfl, rfl, ?_⟩ (k _ s' Hs' H1 _ (e2 (by rw [List.length_map, ← re.length]; exact fx.sz)) g (.keys hd re)))
    simp
  | _ => cases e1
/-- range(n), range(a, b) -/
def dRange1 (t : TDA W) : TDI W := fun ρ s Q => t ρ s fun ds s1 => ∃ j : Int, ds = [.int j] ∧ -(2 ^ 62) ≤ j ∧ j < 2 ^ 62 ∧ Q (rangeD 0 j.toNat) s1
def dRange2 (t : TDA W) : TDI W := fun ρ s Q => t ρ s fun ds s1 => ∃ i j : Int, ds = [.int i, .int j] ∧ (-(2 ^ 62) ≤ i ∧ i < 2 ^ 62 ∧ -(2 ^ 62) ≤ j ∧ j < 2 ^ 62) ∧ Q (rangeD i (j - i).toNat) s1
theorem di_range1 {a : Expr} {ta : TDA W} {p : Pos} (hg : Gl X "range") (hm : X.mg "range" = none) (ha : DA W B X [a] ta) (hs : starEach [a] X.env = [(false, eval a X.env)] := by rfl) : DI W B X tg (.Call (.Name "range" p) [a] [] pos) (dRange1 ta) := by
  refine ⟨pi_imp (pi_range1 hg hm ha.run hs) fun σ H R h => ?_⟩
  obtain ⟨Hs, ρ, s, R', S, h1, k⟩ := h
  refine ⟨Hs, ρ, s, _, S, h1, fun ds s1 Hs1 H1 vs hR g ra => ?_⟩
  obtain ⟨j, rfl, b1, b2, q⟩ := hR
  cases ra with
  | cons r t =>
    cases t
    rw [r.intE]
    exact ⟨j, rfl, b1, b2, k _ s1 Hs1 H1 _ q g (.range 0 _)⟩
theorem di_range2 {a b : Expr} {ta : TDA W} {p : Pos} (hg : Gl X "range") (hm : X.mg "range" = none) (ha : DA W B X [a, b] ta) (hs : starEach [a, b] X.env = [(false, eval a X.env), (false, eval b X.env)] := by rfl) (hs2 : starEach [b] X.env = [(false, eval b X.env)] := by rfl) :
    DI W B X tg (.Call (.Name "range" p) [a, b] [] pos) (dRange2 ta) := by
  refine ⟨pi_imp (pi_range2 hg hm ha.run hs hs2) fun σ H R h => ?_⟩
  obtain ⟨Hs, ρ, s, R', S, h1, k⟩ := h
  refine ⟨Hs, ρ, s, _, S, h1, fun ds s1 Hs1 H1 vs hR g ra => ?_⟩
  obtain ⟨i, j, rfl, b1, q⟩ := hR
  cases ra with
  | cons r t =>
    cases t with
    | cons r' t =>
      cases t
      rw [r.intE, r'.intE]
      exact ⟨i, j, rfl, b1, k _ s1 Hs1 H1 _ q g (.range i _)⟩
end

/-! ### targets -/
abbrev TDG := D → Env → (Env → Prop) → Prop
/-- a target that stores at the slots is alone -/
def DG (X : Cx) (tg : Expr) (is : List Nat) (gt : TDG) : Prop := ∃ g, PG X tg g ∧ ∀ (W : Wld) (B : Bs W) σ H ρ s Hs x d R Q, Stt (cn X) W B σ H ρ s Hs → Rp (cn X) Hs x d → gt d ρ R →
  (∀ ρ' σ', R ρ' → Stt (cn X) W B σ' H ρ' s Hs → (∀ vs, (∀ i ∈ is, i ∈ vs) → wipe σ' vs = wipe σ vs) → Q σ' H) → g x σ H Q
def gtName (i : Nat) : TDG := fun d ρ R => R (ρ.set i (.d d))
theorem wipe_set {i : Nat} {v : Option V} : ∀ {vs : List Nat} {σ : L2.St}, i ∈ vs → wipe (σ.set i v) vs = wipe σ vs
  | [], _, h => by simp at h
  | j :: vs, σ, h => by
    show (wipe (σ.set i v) vs).set j none = (wipe σ vs).set j none
    by_cases e : i = j
    · subst e
      by_cases hm : i ∈ vs
      · rw [wipe_set hm]
      · have : ∀ (vs : List Nat) (σ : L2.St), i ∉ vs → wipe (σ.set i v) vs = (wipe σ vs).set i v := by
          intro vs
          induction vs with
          | nil => intro σ _; rfl
          | cons k ks ih =>
            intro σ hk
            rw [List.mem_cons, not_or] at hk
            show (wipe (σ.set i v) ks).set k none = ((wipe σ ks).set k none).set i v
            rw [ih σ hk.2, List.set_comm _ _ hk.1]
        rw [this vs σ hm, List.set_set]
    · have hm : i ∈ vs := by
        rcases List.mem_cons.mp h with q | q
        · exact absurd q e
        · exact q
      rw [wipe_set hm]
theorem dg_name {X : Cx} {i : Nat} {x : Str} {pos : Pos} (hN : X.N.Nodup) (hi : X.N[i]? = some x) (hx : Loc X.env.scope x) (hf : X.fn x = true ∨ X.env.scope.names.lookup x = some .local := by first | exact .inl rfl | exact .inr rfl | assumption) :
    DG X (.Name x pos) [i] (gtName i) := by
  refine ⟨_, pg_name hN hi hx hf, fun W B σ H ρ s Hs x d R Q S r h k => ?_⟩
  exact k _ _ h (S.set r) fun vs hv => wipe_set (hv i (by simp))
/-- several targets -/
abbrev TDGs := List D → Env → (Env → Prop) → Prop
def DGs (X : Cx) (ts : List Expr) (is : List Nat) (gt : TDGs) : Prop := ∃ g, PGs X ts g ∧ ∀ (W : Wld) (B : Bs W) σ H ρ s Hs xs ds R Q, Stt (cn X) W B σ H ρ s Hs → RpA (cn X) Hs xs ds → gt ds ρ R →
  (∀ ρ' σ', R ρ' → Stt (cn X) W B σ' H ρ' s Hs → (∀ vs, (∀ i ∈ is, i ∈ vs) → wipe σ' vs = wipe σ vs) → Q σ' H) → g xs σ H Q
def gtNil : TDGs := fun ds ρ R => ds = [] ∧ R ρ
def gtCons (g : TDG) (gs : TDGs) : TDGs := fun ds ρ R => ∃ d r, ds = d :: r ∧ g d ρ fun ρ' => gs r ρ' R
theorem dgs_nil {X : Cx} : DGs X [] [] gtNil := ⟨_, pgs_nil, fun W B σ H ρ s Hs xs ds R Q S r h k => by
  obtain ⟨rfl, h⟩ := h
  cases r
  exact ⟨rfl, k ρ σ h S fun _ _ => rfl⟩⟩
theorem dgs_cons {X : Cx} {e : Expr} {es : List Expr} {is js : List Nat} {g : TDG} {gs : TDGs} (h1 : DG X e is g) (h2 : DGs X es js gs)
    (hs : (assignEach (e :: es) X.env).map (·.2) = assign e X.env :: (assignEach es X.env).map (·.2) := by rfl) : DGs X (e :: es) (is ++ js) (gtCons g gs) := by
  obtain ⟨u1, p1, l1⟩ := h1
  obtain ⟨u2, p2, l2⟩ := h2
  refine ⟨_, pgs_cons p1 p2 hs, fun W B σ H ρ s Hs xs ds R Q S r h k => ?_⟩
  obtain ⟨d, ds', rfl, h⟩ := h
  cases r with
  | cons r rr =>
    refine ⟨_, _, rfl, l1 W B σ H ρ s Hs _ d _ _ S r h fun ρ1 σ1 h1 S1 w1 => ?_⟩
    refine l2 W B σ1 H ρ1 s Hs _ ds' _ _ S1 rr h1 fun ρ2 σ2 h2 S2 w2 => ?_
    exact k ρ2 σ2 h2 S2 fun vs hv => (w2 vs fun i hi => hv i (List.mem_append_right _ hi)).trans (w1 vs fun i hi => hv i (List.mem_append_left _ hi))
/-- (a, b, ..) = a tuple -/
def gtTup (n : Nat) (gs : TDGs) : TDG := fun d ρ R => ∃ ds, d = .tup ds ∧ ds.length = n ∧ gs ds ρ R
theorem dg_tup {X : Cx} {es : List Expr} {k : Nat} {pos : Pos} {is : List Nat} {gs : TDGs} {n : Nat} (hc : X.calm = true) (h : DGs X es is gs)
    (hn : (assignEach es X.env).length = n := by rfl) (hst : (assignEach es X.env).findIdx? (·.1) = none := by rfl) : DG X (.Tuple es k pos) is (gtTup n gs) := by
  obtain ⟨u, p, l⟩ := h
  refine ⟨_, pg_tup hc p hn hst, fun W B σ H ρ s Hs x d R Q S r h k => ?_⟩
  obtain ⟨ds, rfl, hl, h⟩ := h
  cases r with
  | tup z hq ra => exact ⟨_, _, rfl, SqT_same S.sub hq, by rw [ra.length]; exact hl, l W B σ H ρ s Hs _ ds R Q S ra h k⟩

/-! ### list comprehensions -/
def wipeD (ρ : Env) : List Nat → Env
  | [] => ρ
  | v :: vs => (wipeD ρ vs).set v .un
theorem Stt.wipe {c : Cn} {W : Wld} {B : Bs W} {σ : L2.St} {H : Hp} {ρ : Env} {s : W.S} {Hs : Hp} (S : Stt c W B σ H ρ s Hs) : ∀ vs : List Nat, Stt c W B (L2.wipe σ vs) H (wipeD ρ vs) s Hs
  | [] => S
  | v :: vs => (Stt.wipe S vs).forget
/-- the turns of a comprehension: body gives an item or leaves it out -/
def lcGo {S : Type} (body : D → S → (Option D → S → Prop) → Prop) : List D → List D → S → (List D → S → Prop) → Prop
  | [], acc, s, Q => Q acc s
  | x :: xs, acc, s, Q => body x s fun o s' => lcGo body xs (acc ++ o.toList) s' Q
structure DTs (W : Wld) (B : Bs W) (X : Cx) (ifs : List Expr) (t : TDB W) : Prop where
  run : PTs X ifs (liftT (cn X) W B t)
def dYes {W : Wld} : TDB W := fun _ s Q => Q true s
theorem pts_imp {X : Cx} {es : List Expr} {t t' : TT} (h : PTs X es t) (f : ∀ σ H Q, t' σ H Q → t σ H Q) : PTs X es t' := ⟨fun pins s σ H Q I w => h.run pins s σ H Q I (f _ _ _ w)⟩
section
variable {W : Wld} {B : Bs W} {X : Cx}
theorem dts_nil : DTs W B X [] dYes := ⟨pts_imp pts_nil fun σ H Q ⟨Hs, ρ, s, R, S, h1, k⟩ => k true s Hs H h1 (Go.refl S.sub S.rel)⟩
theorem dts_one {e : Expr} {t : TDB W} (h : DT W B X e t) : DTs W B X [e] t := ⟨pts_one h.run⟩
def lcBody (gt : TDG) (tt : TDB W) (te : TD W) (ρ : Env) : D → W.S → (Option D → W.S → Prop) → Prop := fun x s K => gt x ρ fun ρ2 => tt ρ2 s fun b s2 => if b = true then te ρ2 s2 fun d s3 => K (some d) s3 else K none s2
def dLc (ti : TDI W) (gt : TDG) (tt : TDB W) (te : TD W) (vs : List Nat) : TD W := fun ρ s Q => ti ρ s fun xs s1 => xs.length ≤ sizeLine ∧ lcGo (lcBody gt tt te (wipeD ρ vs)) xs [] s1 fun ys s2 => Q (.lst ys) s2

theorem lc_turns {tg : Expr} {ti : TDI W} {g : TG} {gt : TDG} {tt : TDB W} {te : TD W} {is vs : List Nat} {σ : L2.St} {H : Hp} {Q : VK} (hv : ∀ i ∈ is, i ∈ vs)
    (hg : ∀ (B : Bs W) σ H ρ s Hs x d R Q, Stt (cn X) W B σ H ρ s Hs → Rp (cn X) Hs x d → gt d ρ R → (∀ ρ' σ', R ρ' → Stt (cn X) W B σ' H ρ' s Hs → (∀ vs, (∀ i ∈ is, i ∈ vs) → wipe σ' vs = wipe σ vs) → Q σ' H) → g x σ H Q)
    (h : liftE (cn X) W B (dLc ti gt tt te vs) σ H Q) : tLc (liftI (cn X) W B ti) g (liftT (cn X) W B tt) (liftE (cn X) W B te) vs σ H Q := by
  obtain ⟨Hs, ρ, s, R, S, h1, k⟩ := h
  refine ⟨Hs, ρ, s, _, S, h1, fun xs s1 Hs1 H1 J hR g1 wk => ?_⟩
  obtain ⟨hz, hL⟩ := hR
  intro p hp
  have S1 := S.step g1
  have hps : Hs1 p = none := g1.sub.free hp
  have hpw : ¬ W.own s1 p := fun z => by
    have := W.there g1.rel z
    exact this hp
  -- the invariant
  refine ⟨fun i m H' => m = xs.length - i ∧ i ≤ xs.length ∧ ∃ Hs' s' acc vacc, Go W s1 Hs1 H1 s' Hs' H' ∧ H' p = some (.lst vacc) ∧ RpA (cn X) Hs' vacc acc ∧ acc.length ≤ i ∧ Hs' p = none ∧ ¬ W.own s' p ∧
    lcGo (lcBody gt tt te (wipeD ρ vs)) (xs.drop i) acc s' (fun ys s2 => R (.lst ys) s2), ⟨_, rfl, Nat.zero_le _, Hs1, s1, [], [], (Lay.mut g1.sub hp).go g1.rel, upd_same, .nil, Nat.le_refl _, hps, hpw, hL⟩, ?_⟩
  rintro i m H2 ⟨rfl, hi, Hs2, s2, acc, vacc, g2, hp2, ra, hacc, hps2, hpw2, hgo⟩
  by_cases hlt : i < xs.length
  · have hx : xs[i]? = some xs[i] := List.getElem?_eq_getElem hlt
    rw [List.drop_eq_getElem_cons hlt] at hgo
    refine .inr ⟨wk.go i Hs2 H2 g2.fz g2.sub hlt, fun H' => i + 1 ≤ xs.length ∧ ∃ Hs' s' acc vacc, Go W s1 Hs1 H1 s' Hs' H' ∧ H' p = some (.lst vacc) ∧ RpA (cn X) Hs' vacc acc ∧ acc.length ≤ i + 1 ∧ Hs' p = none ∧ ¬ W.own s' p ∧
      lcGo (lcBody gt tt te (wipeD ρ vs)) (xs.drop (i + 1)) acc s' (fun ys s2 => R (.lst ys) s2), fun H' h' => ⟨xs.length - (i + 1), by omega, rfl, h'⟩, fun x H3 hy => ?_⟩
    obtain ⟨Hs3, ly, rx⟩ := wk.yld i _ Hs2 H2 x H3 g2.fz g2.sub hx hy
    have g3 := ly.go g2.rel
    have S3 : Stt (cn X) W B (wipe σ vs) H3 (wipeD ρ vs) s2 Hs3 := ((S1.step g2).step g3).wipe vs
    have keep : ∀ {s' : W.S} {Hs' H' : Hp}, Go W s2 Hs3 H3 s' Hs' H' → H' p = some (.lst vacc) ∧ Hs' p = none ∧ ¬ W.own s' p := fun {s' Hs' H'} g => by
      have h3 : H3 p = some (.lst vacc) := g3.ext p _ hp2 hpw2
      have n3 : Hs3 p = none := by
        cases q : Hs3 p with
        | none => rfl
        | some u =>
          rcases g3.new p (by rw [q]; exact fun z => nomatch z) with z | z
          · exact absurd hps2 z
          · rw [hp2] at z; cases z
      refine ⟨g.ext p _ h3 hpw2, ?_, fun z => ?_⟩
      · cases q : Hs' p with
        | none => rfl
        | some u =>
          rcases g.new p (by rw [q]; exact fun z => nomatch z) with z | z
          · exact absurd n3 z
          · rw [h3] at z; cases z
      · rcases g.wn p z with y | y
        · exact hpw2 y
        · rw [h3] at y; cases y
    refine hg B (wipe σ vs) H3 (wipeD ρ vs) s2 Hs3 x _ _ _ S3 rx hgo fun ρ4 σ4 hR4 S4 w4 => ?_
    have ew : wipe σ4 vs = wipe σ vs := by
      rw [w4 vs hv]
      have : ∀ (us : List Nat) (τ : L2.St), (∀ i ∈ us, i ∈ vs) → wipe (wipe τ us) vs = wipe τ vs := by
        intro us
        induction us with
        | nil => intro τ _; rfl
        | cons j js ih =>
          intro τ hj
          show wipe ((wipe τ js).set j none) vs = wipe τ vs
          rw [wipe_set (hj j (by simp)), ih τ fun i hi => hj i (by simp [hi])]
      exact this vs σ fun i hi => hi
    refine ⟨ew, Hs3, ρ4, s2, _, S4, hR4, fun b s5 Hs5 H5 hR5 g5 => ?_⟩
    cases b with
    | false =>
      rw [if_neg Bool.false_ne_true] at hR5 ⊢
      obtain ⟨c1, c2, c3⟩ := keep g5
      rw [Option.toList_none, List.append_nil] at hR5
      exact ⟨hlt, Hs5, s5, acc, vacc, g2.trans (g3.trans g5), c1, (ra.same g3.fz).same g5.fz, by omega, c2, c3, hR5⟩
    | true =>
      rw [if_pos rfl] at hR5 ⊢
      refine ⟨Hs5, ρ4, s5, _, S4.step g5, hR5, fun d s6 Hs6 H6 v hR6 g6 rv => ?_⟩
      obtain ⟨c1, c2, c3⟩ := keep (g5.trans g6)
      have ra6 : RpA (cn X) Hs6 vacc acc := ((ra.same g3.fz).same g5.fz).same g6.fz
      refine ⟨vacc, c1, by rw [ra6.length]; omega, hlt, Hs6, s6, acc ++ [d], vacc ++ [v], ?_, upd_same, ra6.append (.one rv), by simp; omega, c2, c3, hR6⟩
      -- the item put in
      have gg := g2.trans (g3.trans (g5.trans g6))
      refine ⟨gg.fz, fun a u q => ?_, gg.new, fun a u q n => ?_, fun a q => ?_, gg.wn, W.keep gg.rel (Same.refl _) (fun _ _ z => z) fun a q => ?_⟩
      · rw [upd_ne (fun z => by rw [z, c2] at q; cases q)]
        exact gg.sub a u q
      · rw [upd_ne (fun z => by rw [z, hp] at q; cases q)]
        exact gg.ext a u q n
      · by_cases z : a = p
        · rw [z, upd_same]; exact fun y => nomatch y
        · rw [upd_ne z]; exact gg.th a q
      · rw [upd_ne (fun z => by rw [z] at q; exact c3 q)]
  · have e : i = xs.length := by omega
    subst e
    refine .inl ⟨wk.stop Hs2 H2 g2.fz g2.sub, ?_⟩
    rw [List.drop_length] at hgo
    have hs2 : Same Hs2 H2 := g2.sub
    refine k (.lst acc) s2 (upd Hs2 p (.lst vacc)) H2 _ hgo ?_ (.lstN hps2 (Nat.le_trans hacc hz) ra)
    have gg := g1.trans g2
    refine ⟨gg.fz.trans (Same.updR hps2), fun a u q => ?_, fun a q => ?_, gg.ext, gg.th, gg.wn, W.keep gg.rel (Same.updR hps2) (upd_keep hpw2) fun _ _ => rfl⟩
    · by_cases z : a = p
      · rw [z, upd_same] at q
        rw [z, hp2]
        exact q
      · rw [upd_ne z] at q
        exact hs2 a u q
    · by_cases z : a = p
      · right
        rw [z]
        exact free_of g1.th hp
      · rw [upd_ne z] at q
        exact gg.new a q
/-- [elt for tg in iter if ..] -/
theorem de_lc {elt tg iter : Expr} {ifs : List Expr} {scope : Scope} {own : List (Str × Nat)} {pos : Pos} {ti : TDI W} {is : List Nat} {gt : TDG} {tt : TDB W} {te : TD W} (hc : X.calm = true) (hN : X.N.Nodup) (hi : DI W B X tg iter ti) (ok : BlkOk X.N X.env.scope scope own)
    (hg : ∀ (s : Shared) (H : Hp) (C : Addr) (cl : List (Str × Addr)) (fp : List Addr), DG (X.blk s H scope (compEnvC scope cl C X.env) fp) tg is gt) (ht : ∀ (s : Shared) (H : Hp) (C : Addr) (cl : List (Str × Addr)) (fp : List Addr), DTs W B (X.blk s H scope (compEnvC scope cl C X.env) fp) ifs tt)
    (he : ∀ (s : Shared) (H : Hp) (C : Addr) (cl : List (Str × Addr)) (fp : List Addr), DE W B (X.blk s H scope (compEnvC scope cl C X.env) fp) elt te) (hv : ∀ i ∈ is, i ∈ own.map (·.2) := by decide) (hs : ∀ x, foldedSetIterable iter X.env x = pure x := by intro _; rfl) :
    DE W B X (.ListComp elt [⟨tg, iter, ifs, 0⟩] scope pos) (dLc ti gt tt te (own.map (·.2))) := by
  refine ⟨⟨fun pins s σ H Q I h => ?_⟩⟩
  -- a target's reading that serves in every block
  have hG : ∀ (s : Shared) (H : Hp) (C : Addr) (cl : List (Str × Addr)) (fp : List Addr), PG (X.blk s H scope (compEnvC scope cl C X.env) fp) tg (fun x σ H Q => ∃ (B : Bs W) (ρ : Env) (s : W.S) (Hs : Hp) (d : D) (R : Env → Prop), Stt (cn X) W B σ H ρ s Hs ∧ Rp (cn X) Hs x d ∧ gt d ρ R ∧
      ∀ ρ' σ', R ρ' → Stt (cn X) W B σ' H ρ' s Hs → (∀ vs, (∀ i ∈ is, i ∈ vs) → wipe σ' vs = wipe σ vs) → Q σ' H) := fun s H C cl fp => by
    obtain ⟨g, pg, l⟩ := hg s H C cl fp
    refine ⟨fun pins s1 σ H1 v u Q I1 r ⟨B, ρ, st, Hs, d, R, S, rx, h, k⟩ => ?_⟩
    exact pg.run pins s1 σ H1 v u Q I1 r (l W B σ H1 ρ st Hs v d R Q S rx h k)
  exact (pe_lc hc hN hi.run ok hG (fun s H C cl fp => (ht s H C cl fp).run) (fun s H C cl fp => (he s H C cl fp).run) hs).run pins s σ H Q I
    (lc_turns (tg := tg) (is := is) hv (fun B σ H ρ s Hs x d R Q S rx h k => ⟨B, ρ, s, Hs, d, R, S, rx, h, k⟩) h)
/-- name = [..] on one line -/
theorem lc_map {S : Type} {body : D → S → (Option D → S → Prop) → Prop} (f : D → D) : ∀ {xs acc : List D} {s : S} {Q : List D → S → Prop}, (∀ x ∈ xs, ∀ K : Option D → S → Prop, K (some (f x)) s → body x s K) → Q (acc ++ xs.map f) s → lcGo body xs acc s Q
  | [], acc, s, Q, _, q => by
    show Q acc s
    simpa using q
  | x :: xs, acc, s, Q, h, q => h x (by simp) _ (lc_map f (fun y hy => h y (by simp [hy])) (by simpa using q))
theorem lc_filterMap {S : Type} {body : D → S → (Option D → S → Prop) → Prop} (f : D → Option D) : ∀ {xs acc : List D} {s : S} {Q : List D → S → Prop}, (∀ x ∈ xs, ∀ K : Option D → S → Prop, K (f x) s → body x s K) → Q (acc ++ xs.filterMap f) s → lcGo body xs acc s Q
  | [], acc, s, Q, _, q => by
    show Q acc s
    simpa using q
  | x :: xs, acc, s, Q, h, q => h x (by simp) _ (lc_filterMap f (fun y hy => h y (by simp [hy])) (by
      rw [List.filterMap_cons] at q
      cases e : f x with
      | none => rw [e] at q; simpa using q
      | some z => rw [e] at q; simpa using q))
end
end Dv

set_option Elab.async false
set_option linter.all false
set_option maxRecDepth 100000
/-! Statements and defs over data. -/
namespace Dv
open PySem L2

structure EndsD (W : Wld) where
  nx : Env → W.S → Prop
  rt : D → W.S → Prop
  bk : Env → W.S → Prop := fun _ _ => False
  ct : Env → W.S → Prop := fun _ _ => False
abbrev TDS (W : Wld) := EndsD W → Env → W.S → Prop
structure AftS (c : Cn) (W : Wld) (B : Bs W) (Hs : Hp) (E : EndsD W) (D : Ends) : Prop where
  nx : ∀ ρ s Hs' σ H, E.nx ρ s → Same Hs Hs' → Stt c W B σ H ρ s Hs' → D.nx σ H
  rt : ∀ d s Hs' H v, E.rt d s → Go W B.s B.Hs B.H s Hs' H → Rp c Hs' v d → D.rt v H
  bk : ∀ ρ s Hs' σ H, E.bk ρ s → Same Hs Hs' → Stt c W B σ H ρ s Hs' → D.bk σ H
  ct : ∀ ρ s Hs' σ H, E.ct ρ s → Same Hs Hs' → Stt c W B σ H ρ s Hs' → D.ct σ H
theorem AftS.same {c : Cn} {W : Wld} {B : Bs W} {Hs Hs1 : Hp} {E : EndsD W} {D : Ends} (h : AftS c W B Hs E D) (e : Same Hs Hs1) : AftS c W B Hs1 E D :=
  ⟨fun ρ s Hs' σ H a b => h.nx ρ s Hs' σ H a (e.trans b), h.rt, fun ρ s Hs' σ H a b => h.bk ρ s Hs' σ H a (e.trans b), fun ρ s Hs' σ H a b => h.ct ρ s Hs' σ H a (e.trans b)⟩
def liftS (c : Cn) (W : Wld) (B : Bs W) (t : TDS W) : TS := fun D σ H => ∃ Hs ρ s E, Stt c W B σ H ρ s Hs ∧ t E ρ s ∧ AftS c W B Hs E D
structure DS (W : Wld) (B : Bs W) (X : Cx) (st : Stmt) (t : TDS W) : Prop where
  run : PS X st (liftS (cn X) W B t)
structure DSs (W : Wld) (B : Bs W) (X : Cx) (st : List Stmt) (t : TDS W) : Prop where
  run : PSs X st (liftS (cn X) W B t)

/-! ### own things made data -/
theorem Stt.freeze {c : Cn} {W : Wld} {B : Bs W} {σ : L2.St} {H : Hp} {ρ : Env} {s : W.S} {Hs : Hp} {i : Nat} {b : Ob} (S : Stt c W B σ H ρ s Hs) (e : ρ[i]? = some (.own b)) :
    ∃ Hs', Same Hs Hs' ∧ Stt c W B σ H (ρ.set i (.d (match b with | .lst xs => .lst xs | .dic kvs => .dic kvs))) s Hs' := by
  obtain ⟨p, o, a1, a2, a3, a4, a5, a6⟩ := S.ow i b e
  have hs := Same.updR (o := o) a4
  have hi : i < ρ.length := (List.getElem?_eq_some_iff.mp e).1
  have hn : ∀ (j : Nat) (x : Slot) (y : D), x ≠ .d y → (ρ.set i (.d y))[j]? = some x → j ≠ i ∧ ρ[j]? = some x := fun j x y hx ex => by
    by_cases q : i = j
    · subst q
      rw [List.getElem?_set_self hi] at ex
      cases ex
      exact absurd rfl hx
    · rw [List.getElem?_set_ne q] at ex
      exact ⟨fun z => q z.symm, ex⟩
  refine ⟨upd Hs p o, hs, ⟨S.go.fz.trans hs, fun a u q => ?_, fun a q => ?_, S.go.ext, S.go.th, S.go.wn, W.keep S.go.rel hs (upd_keep a5) fun _ _ => rfl⟩, by simpa using S.len, fun j d ej => ?_, fun j b' ej => ?_, fun j k b1 b2 q e1 e2 e3 e4 => ?_⟩
  · by_cases z : a = p
    · rw [z, upd_same] at q
      rw [z, a2]
      exact q
    · rw [upd_ne z] at q
      exact S.go.sub a u q
  · by_cases z : a = p
    · right; rw [z]; exact a6
    · rw [upd_ne z] at q
      exact S.go.new a q
  · by_cases q : i = j
    · subst q
      rw [List.getElem?_set_self hi] at ej
      cases ej
      refine ⟨_, a1, ?_⟩
      cases a3 with
      | lst z r => exact .lst z (SqL.of upd_same) (r.same hs)
      | dic x r n => exact .dic upd_same x (r.same hs) n
    · rw [List.getElem?_set_ne q] at ej
      obtain ⟨v, h1, h2⟩ := S.dat j d ej
      exact ⟨v, h1, h2.same hs⟩
  · obtain ⟨h1, h2⟩ := hn j (.own b') _ (fun z => nomatch z) ej
    obtain ⟨p', o', c1, c2, c3, c4, c5, c6⟩ := S.ow j b' h2
    refine ⟨p', o', c1, c2, c3.same hs, ?_, c5, c6⟩
    rw [upd_ne fun z => ?_]
    · exact c4
    · subst z
      exact h1 (S.ap j i b' b p' h2 e c1 a1)
  · obtain ⟨h1, h2⟩ := hn j (.own b1) _ (fun z => nomatch z) e1
    obtain ⟨h3, h4⟩ := hn k (.own b2) _ (fun z => nomatch z) e2
    exact S.ap j k b1 b2 q h2 h4 e3 e4

section
variable {W : Wld} {B : Bs W} {X : Cx} {st : Stmt} {rest : List Stmt} {t u : TDS W} {e : Expr} {te : TD W} {pos : Pos}
/-! ### blocks -/
def dNext : TDS W := fun E ρ s => E.nx ρ s
def dSeq (t u : TDS W) : TDS W := fun E ρ s => t { E with nx := u E } ρ s
theorem dss_nil : DSs W B X [] dNext := ⟨pss_imp pss_nil fun D σ H ⟨Hs, ρ, s, E, S, h1, k⟩ => k.nx ρ s Hs σ H h1 (Same.refl _) S⟩
theorem dss_cons (h1 : DS W B X st t) (h2 : DSs W B X rest u) : DSs W B X (st :: rest) (dSeq t u) := by
  refine ⟨pss_imp (pss_cons h1.run h2.run) fun D σ H ⟨Hs, ρ, s, E, S, h, k⟩ => ?_⟩
  exact ⟨Hs, ρ, s, _, S, h, ⟨fun ρ' s' Hs' σ' H' a b S' => ⟨Hs', ρ', s', E, S', a, k.same b⟩, k.rt, k.bk, k.ct⟩⟩
theorem dss_one (h1 : DS W B X st t) : DSs W B X [st] t := ⟨pss_one h1.run⟩
/-- a thing of one's own in slot i is from here on data -/
def dFreeze (i : Nat) (t : TDS W) : TDS W := fun E ρ s => (∃ xs, ρ[i]? = some (.own (.lst xs)) ∧ t E (ρ.set i (.d (.lst xs))) s) ∨ ∃ kvs, ρ[i]? = some (.own (.dic kvs)) ∧ t E (ρ.set i (.d (.dic kvs))) s
theorem dss_freeze (i : Nat) (h : DSs W B X rest t) : DSs W B X rest (dFreeze i t) := ⟨pss_imp h.run fun D σ H ⟨Hs, ρ, s, E, S, h, k⟩ => by
  rcases h with ⟨xs, e, h⟩ | ⟨xs, e, h⟩
  · obtain ⟨Hs', hs, S'⟩ := S.freeze e
    exact ⟨Hs', _, s, E, S', h, k.same hs⟩
  · obtain ⟨Hs', hs, S'⟩ := S.freeze e
    exact ⟨Hs', _, s, E, S', h, k.same hs⟩⟩
theorem ds_freeze (i : Nat) (h : DS W B X st t) : DS W B X st (dFreeze i t) := ⟨ps_imp h.run fun D σ H ⟨Hs, ρ, s, E, S, h, k⟩ => by
  rcases h with ⟨xs, e, h⟩ | ⟨xs, e, h⟩
  · obtain ⟨Hs', hs, S'⟩ := S.freeze e
    exact ⟨Hs', _, s, E, S', h, k.same hs⟩
  · obtain ⟨Hs', hs, S'⟩ := S.freeze e
    exact ⟨Hs', _, s, E, S', h, k.same hs⟩⟩
/-! ### small statements -/
theorem ds_pass : DS W B X (.Pass pos) dNext := ⟨ps_imp ps_pass fun D σ H ⟨Hs, ρ, s, E, S, h1, k⟩ => k.nx ρ s Hs σ H h1 (Same.refl _) S⟩
def dBreak : TDS W := fun E ρ s => E.bk ρ s
def dCont : TDS W := fun E ρ s => E.ct ρ s
theorem ds_break : DS W B X (.Break pos) dBreak := ⟨ps_imp ps_break fun D σ H ⟨Hs, ρ, s, E, S, h1, k⟩ => k.bk ρ s Hs σ H h1 (Same.refl _) S⟩
theorem ds_continue : DS W B X (.Continue pos) dCont := ⟨ps_imp ps_continue fun D σ H ⟨Hs, ρ, s, E, S, h1, k⟩ => k.ct ρ s Hs σ H h1 (Same.refl _) S⟩
def dDrop (te : TD W) : TDS W := fun E ρ s => te ρ s fun _ s1 => E.nx ρ s1
theorem ds_expr (he : DE W B X e te) (hs : swapsWith e none pos.line X.env = pure false := by rfl) : DS W B X (.Expr e pos) (dDrop te) := ⟨ps_imp (ps_expr he.run hs) fun D σ H ⟨Hs, ρ, s, E, S, h1, k⟩ =>
  ⟨Hs, ρ, s, _, S, h1, fun d s1 Hs1 H1 v hR g r => k.nx ρ s1 Hs1 σ H1 hR g.fz (S.step g)⟩⟩
def dRet (te : TD W) : TDS W := fun E ρ s => te ρ s E.rt
theorem ds_ret (he : DE W B X e te) : DS W B X (.Return (some e) pos) (dRet te) := ⟨ps_imp (ps_ret he.run) fun D σ H ⟨Hs, ρ, s, E, S, h1, k⟩ =>
  ⟨Hs, ρ, s, _, S, h1, fun d s1 Hs1 H1 v hR g r => k.rt d s1 Hs1 H1 v hR (S.go.trans g) r⟩⟩
def dRetN : TDS W := fun E _ s => E.rt .non s
theorem ds_retN : DS W B X (.Return none pos) dRetN := ⟨ps_imp ps_retN fun D σ H ⟨Hs, ρ, s, E, S, h1, k⟩ => k.rt .non s Hs H .non h1 S.go .non⟩
def dIfS (c : TDB W) (t u : TDS W) : TDS W := fun E ρ s => c ρ s fun b s1 => if b = true then t E ρ s1 else u E ρ s1
theorem ds_if {c : Expr} {a b : List Stmt} {tc : TDB W} (hc : DT W B X c tc) (ha : DSs W B X a t) (hb : DSs W B X b u) : DS W B X (.If c a b pos) (dIfS tc t u) := by
  refine ⟨ps_imp (ps_if hc.run ha.run hb.run) fun D σ H ⟨Hs, ρ, s, E, S, h1, k⟩ => ?_⟩
  refine ⟨Hs, ρ, s, _, S, h1, fun b s1 Hs1 H1 hR g => ?_⟩
  cases b with
  | true =>
    rw [if_pos rfl] at hR ⊢
    exact ⟨Hs1, ρ, s1, E, S.step g, hR, k.same g.fz⟩
  | false =>
    rw [if_neg Bool.false_ne_true] at hR ⊢
    exact ⟨Hs1, ρ, s1, E, S.step g, hR, k.same g.fz⟩
/-! ### stores -/
def dSet (te : TD W) (gt : TDG) : TDS W := fun E ρ s => te ρ s fun d s1 => gt d ρ fun ρ' => E.nx ρ' s1
theorem ds_set {i : Nat} {x : Str} {pos' : Pos} (hN : X.N.Nodup) (hi : X.N[i]? = some x) (hx : Loc X.env.scope x) (he : DE W B X e te) (hs : swapsWith e (some (.Name x pos')) pos.line X.env = pure false := by rfl) (hf : X.fn x = true ∨ X.env.scope.names.lookup x = some .local := by first | exact .inl rfl | exact .inr rfl | assumption) :
    DS W B X (.Assign [.Name x pos'] e pos) (dSet te (gtName i)) := ⟨ps_imp (ps_set hN hi hx he.run hs hf) fun D σ H ⟨Hs, ρ, s, E, S, h1, k⟩ =>
  ⟨Hs, ρ, s, _, S, h1, fun d s1 Hs1 H1 v hR g r => k.nx _ s1 Hs1 _ H1 hR g.fz ((S.step g).set r)⟩⟩
theorem ds_asg {tg : Expr} {is : List Nat} {gt : TDG} (he : DE W B X e te) (hg : DG X tg is gt) (hs : swapsWithSole [tg] e pos.line X.env = pure false := by rfl) (hw : swappedStores [tg] e X.env = pure none := by rfl)
    (h1 : (assignEach [tg] X.env).map (·.2) = [assign tg X.env] := by rfl) : DS W B X (.Assign [tg] e pos) (dSet te gt) := by
  obtain ⟨g, pg, l⟩ := hg
  exact ⟨ps_imp (ps_asg he.run pg hs hw h1) fun D σ H ⟨Hs, ρ, s, E, S, h1, k⟩ =>
    ⟨Hs, ρ, s, _, S, h1, fun d s1 Hs1 H1 v hR g r => l W B σ H1 ρ s1 Hs1 v d _ _ (S.step g) r hR fun ρ' σ' hR' S' _ => k.nx ρ' s1 Hs1 σ' H1 hR' g.fz S'⟩⟩
def dPar (i j : Nat) (ta : TDA W) : TDS W := fun E ρ s => ta ρ s fun ds s1 => ∃ d e, ds = [d, e] ∧ E.nx ((ρ.set i (.d d)).set j (.d e)) s1
theorem ds_par {i j : Nat} {x y : Str} {a b : Expr} {ta : TDA W} {px py pt : Pos} {kt k2 : Nat} {pt2 : Pos} (hc : X.calm = true) (hN : X.N.Nodup) (hi : X.N[i]? = some x) (hj : X.N[j]? = some y) (hij : i ≠ j)
    (hx : X.env.scope.names.lookup x = some .local) (hy : X.env.scope.names.lookup y = some .local) (ha : DA W B X [a, b] ta)
    (hw : swappedStores [.Tuple [.Name x px, .Name y py] kt pt] (.Tuple [a, b] k2 pt2) X.env = pure (some [x, y]) := by rfl)
    (hs : swapsWithSole [.Tuple [.Name x px, .Name y py] kt pt] (.Tuple [a, b] k2 pt2) pos.line X.env = pure false := by rfl) :
    DS W B X (.Assign [.Tuple [.Name x px, .Name y py] kt pt] (.Tuple [a, b] k2 pt2) pos) (dPar i j ta) := ⟨ps_imp (ps_par hc hN hi hj hij hx hy ha.run hw hs) fun D σ H ⟨Hs, ρ, s, E, S, h1, k⟩ => by
  refine ⟨Hs, ρ, s, _, S, h1, fun ds s1 Hs1 H1 vs hR g r => ?_⟩
  obtain ⟨d, e, rfl, q⟩ := hR
  cases r with
  | cons r1 r =>
    cases r with
    | cons r2 r =>
      cases r
      exact ⟨_, _, rfl, k.nx _ s1 Hs1 _ H1 q g.fz (((S.step g).set r1).set r2)⟩⟩
/-- name op= e -/
def dAug (i : Nat) (te : TD W) (p : P2) : TDS W := fun E ρ s => ∃ x, ρ[i]? = some (.d x) ∧ te ρ s fun y s1 => p x y fun z => E.nx (ρ.set i (.d z)) s1
def IpD (X : Cx) (op : Operator) (p : P2) : Prop := ∃ r, PIp X op r ∧ Lk2 X r p
theorem ds_aug {i : Nat} {x : Str} {op : Operator} {p : P2} {pos' : Pos} (hN : X.N.Nodup) (hi : X.N[i]? = some x) (hx : Loc X.env.scope x) (he : DE W B X e te) (ho : IpD X op p) (hf : X.fn x = true ∨ X.env.scope.names.lookup x = some .local := by first | exact .inl rfl | exact .inr rfl | assumption) :
    DS W B X (.AugAssign (.Name x pos') op e pos) (dAug i te p) := by
  obtain ⟨r, hr, l⟩ := ho
  refine ⟨ps_imp (ps_aug hN hi hx he.run hr hf) fun D σ H ⟨Hs, ρ, s, E, S, ⟨d, e1, h1⟩, k⟩ => ?_⟩
  obtain ⟨v, ev, rv⟩ := S.dat i d e1
  refine ⟨v, ev, Hs, ρ, s, _, S, h1, fun y s1 Hs1 H1 u hR g ru => ?_⟩
  refine l Hs1 H1 v u d y _ _ g.sub (rv.same g.fz) ru hR fun z Hs2 H2 w hz ly rz => ?_
  have g2 := g.trans (ly.go g.rel)
  exact k.nx _ s1 Hs2 _ H2 hz g2.fz ((S.step g2).set rz)

/-! ### loops -/
def forGo (body : D → TDS W) (E : EndsD W) : List D → Env → W.S → Prop
  | [], ρ, s => E.nx ρ s
  | x :: xs, ρ, s => body x { nx := forGo body E xs, rt := E.rt, bk := E.nx, ct := forGo body E xs } ρ s
def dFor (ti : TDI W) (gt : TDG) (tb : TDS W) : TDS W := fun E ρ s => ti ρ s fun xs s1 => forGo (fun x E ρ s => gt x ρ fun ρ' => tb E ρ' s) E xs ρ s1
theorem ds_for {tg iter : Expr} {body : List Stmt} {ti : TDI W} {is : List Nat} {gt : TDG} {tb : TDS W} (hp : PassesOwn (model X.prog X.w) X.A X.env X.xe) (hc : X.calm = true) (hi : DI W B X tg iter ti) (hg : DG X tg is gt) (hb : DSs W B X body tb)
    (hs : ∀ x, foldedSetIterable iter X.env x = pure x := by intro _; rfl) : DS W B X (.For tg iter body [] pos) (dFor ti gt tb) := by
  obtain ⟨g, pg, l⟩ := hg
  refine ⟨ps_imp (ps_for hp hc hi.run pg hb.run hs) fun D σ H ⟨Hs, ρ, s, E, S, h1, k⟩ => ?_⟩
  refine ⟨Hs, ρ, s, _, S, h1, fun xs s1 Hs1 H1 J hR g1 wk => ?_⟩
  refine ⟨fun i m σ H => m = xs.length - i ∧ i ≤ xs.length ∧ ∃ Hs' ρ' s', Same Hs1 Hs' ∧ Stt (cn X) W B σ H ρ' s' Hs' ∧ forGo (fun x E ρ s => gt x ρ fun ρ' => tb E ρ' s) E (xs.drop i) ρ' s', ⟨_, rfl, Nat.zero_le _, Hs1, ρ, s1, Same.refl _, S.step g1, hR⟩, ?_⟩
  rintro i m σ2 H2 ⟨rfl, hi, Hs2, ρ2, s2, e2, S2, hgo⟩
  by_cases hlt : i < xs.length
  · have hx : xs[i]? = some xs[i] := List.getElem?_eq_getElem hlt
    rw [List.drop_eq_getElem_cons hlt] at hgo
    refine .inr ⟨wk.go i Hs2 H2 e2 S2.sub hlt, fun σ H => i + 1 ≤ xs.length ∧ ∃ Hs' ρ' s', Same Hs1 Hs' ∧ Stt (cn X) W B σ H ρ' s' Hs' ∧ forGo (fun x E ρ s => gt x ρ fun ρ' => tb E ρ' s) E (xs.drop (i + 1)) ρ' s', fun σ' H' h' => ⟨xs.length - (i + 1), by omega, rfl, h'⟩, fun x H3 hy => ?_⟩
    obtain ⟨Hs3, ly, rx⟩ := wk.yld i _ Hs2 H2 x H3 e2 S2.sub hx hy
    have g3 := ly.go S2.rel
    refine l W B σ2 H3 ρ2 s2 Hs3 x _ _ _ (S2.step g3) rx hgo fun ρ4 σ4 hR4 S4 _ => ?_
    refine ⟨Hs3, ρ4, s2, _, S4, hR4, ⟨fun ρ' s' Hs' σ' H' a b S' => ⟨hlt, Hs', ρ', s', e2.trans (g3.fz.trans b), S', a⟩, k.rt, fun ρ' s' Hs' σ' H' a b S' => k.nx ρ' s' Hs' σ' H' a (g1.fz.trans (e2.trans (g3.fz.trans b))) S', fun ρ' s' Hs' σ' H' a b S' => ⟨hlt, Hs', ρ', s', e2.trans (g3.fz.trans b), S', a⟩⟩⟩
  · have e : i = xs.length := by omega
    subst e
    rw [List.drop_length] at hgo
    exact .inl ⟨wk.stop Hs2 H2 e2 S2.sub, k.nx ρ2 s2 Hs2 σ2 H2 hgo (g1.fz.trans e2) S2⟩
def dWhile (c : TDB W) (tb : TDS W) : TDS W := fun E ρ s => ∃ N : Nat → Env → W.S → Prop, (∃ m, N m ρ s) ∧ ∀ m ρ s, N m ρ s → c ρ s fun b s1 => if b = true then
  tb { nx := fun ρ' s' => ∃ m', m' < m ∧ N m' ρ' s', rt := E.rt, bk := E.nx, ct := fun ρ' s' => ∃ m', m' < m ∧ N m' ρ' s' } ρ s1 else E.nx ρ s1
theorem ds_while {c : Expr} {body : List Stmt} {tc : TDB W} {tb : TDS W} (hp : PassesOwn (model X.prog X.w) X.A X.env X.xe) (hc : DT W B X c tc) (hb : DSs W B X body tb) : DS W B X (.While c body [] pos) (dWhile tc tb) := by
  refine ⟨ps_imp (ps_while hp hc.run hb.run) fun D σ H ⟨Hs, ρ, s, E, S, ⟨N, ⟨m0, h0⟩, h1⟩, k⟩ => ?_⟩
  refine ⟨fun m σ H => ∃ Hs' ρ' s', Same Hs Hs' ∧ Stt (cn X) W B σ H ρ' s' Hs' ∧ N m ρ' s', ⟨m0, Hs, ρ, s, Same.refl _, S, h0⟩, fun m σ2 H2 ⟨Hs2, ρ2, s2, e2, S2, n2⟩ => ?_⟩
  refine ⟨Hs2, ρ2, s2, _, S2, h1 m ρ2 s2 n2, fun b s3 Hs3 H3 hR g3 => ?_⟩
  cases b with
  | true =>
    rw [if_pos rfl] at hR ⊢
    refine ⟨fun σ' H' => ∃ Hs' ρ' s' m', Same Hs Hs' ∧ Stt (cn X) W B σ' H' ρ' s' Hs' ∧ m' < m ∧ N m' ρ' s', fun σ' H' ⟨Hs', ρ', s', m', a, b, c, d⟩ => ⟨m', c, Hs', ρ', s', a, b, d⟩, ?_⟩
    refine ⟨Hs3, ρ2, s3, _, S2.step g3, hR, ⟨fun ρ' s' Hs' σ' H' ⟨m', a, b⟩ d S' => ⟨Hs', ρ', s', m', e2.trans (g3.fz.trans d), S', a, b⟩, k.rt, fun ρ' s' Hs' σ' H' a d S' => k.nx ρ' s' Hs' σ' H' a (e2.trans (g3.fz.trans d)) S', fun ρ' s' Hs' σ' H' ⟨m', a, b⟩ d S' => ⟨Hs', ρ', s', m', e2.trans (g3.fz.trans d), S', a, b⟩⟩⟩
  | false =>
    rw [if_neg Bool.false_ne_true] at hR ⊢
    exact k.nx ρ2 s3 Hs3 σ2 H3 hR (e2.trans g3.fz) (S2.step g3)

/-! ### lists of one's own -/
abbrev TDF (W : Wld) := Env → W.S → (List D → W.S → Prop) → Prop
abbrev AftF (c : Cn) (W : Wld) (s : W.S) (Hs H : Hp) (R : List D → W.S → Prop) (Q : VK) : Prop := ∀ xs s' Hs' H' p vs, R xs s' → Go W s Hs H s' Hs' H' → H' p = some (.lst vs) → RpA c Hs' vs xs → Hs' p = none → ¬ W.own s' p → H p = none → xs.length ≤ sizeLine → Q (.ref p) H'
def liftF (c : Cn) (W : Wld) (B : Bs W) (t : TDF W) : TE := fun σ H Q => ∃ Hs ρ s R, Stt c W B σ H ρ s Hs ∧ t ρ s R ∧ AftF c W s Hs H R Q
/-- an expression that makes a new list -/
structure DF (W : Wld) (B : Bs W) (X : Cx) (e : Expr) (t : TDF W) : Prop where
  run : PE X e (liftF (cn X) W B t)
def fLst (t : TDA W) : TDF W := fun ρ s Q => t ρ s fun xs s1 => xs.length ≤ sizeLine ∧ Q xs s1
theorem Go.mutL {s : W.S} {Hs H : Hp} {s1 : W.S} {Hs1 H1 : Hp} {p : Addr} {o : HO} (g : Go W s Hs H s1 Hs1 H1) (hp : H1 p = none) : Go W s Hs H s1 Hs1 (upd H1 p o) := g.trans ((Lay.mut g.sub hp).go g.rel)
theorem df_lst {es : List Expr} {t : TDA W} (h : DA W B X es t) : DF W B X (.List es pos) (fLst t) := ⟨pe_imp (pe_lst h.run) fun σ H Q ⟨Hs, ρ, s, R, S, h1, k⟩ => by
  refine ⟨Hs, ρ, s, _, S, h1, fun xs s1 Hs1 H1 vs hR g rs => ?_⟩
  obtain ⟨hz, hq⟩ := hR
  refine ⟨by rw [rs.length]; exact hz, fun p hp => ?_⟩
  exact k xs s1 Hs1 _ p vs hq (g.mutL hp) upd_same rs (g.sub.free hp) (fun z => W.there g.rel z hp) (free_of g.th hp) hz⟩
def dSetF (i : Nat) (t : TDF W) : TDS W := fun E ρ s => t ρ s fun xs s1 => E.nx (ρ.set i (.own (.lst xs))) s1
theorem ds_setF {i : Nat} {x : Str} {pos' : Pos} {t : TDF W} (hN : X.N.Nodup) (hi : X.N[i]? = some x) (hx : Loc X.env.scope x) (he : DF W B X e t) (hs : swapsWith e (some (.Name x pos')) pos.line X.env = pure false := by rfl) (hf : X.fn x = true ∨ X.env.scope.names.lookup x = some .local := by first | exact .inl rfl | exact .inr rfl | assumption) :
    DS W B X (.Assign [.Name x pos'] e pos) (dSetF i t) := ⟨ps_imp (ps_set hN hi hx he.run hs hf) fun D σ H ⟨Hs, ρ, s, E, S, h1, k⟩ => by
  refine ⟨Hs, ρ, s, _, S, h1, fun xs s1 Hs1 H1 p vs hR g hp ra h0 hw hn hz => ?_⟩
  have S1 := S.step g
  exact k.nx _ s1 Hs1 _ H1 hR g.fz (S1.setOwn hp (.lst hz ra) h0 hw (free_of S.go.th hn) fun j b' _ ej => S.fresh hn j b' ej)⟩
/-- list(x), a new list -/
def fItems (t : TDA W) : TDF W := fun ρ s Q => t ρ s fun ds s1 => ∃ d xs, ds = [d] ∧ (d = .tup xs ∨ d = .lst xs) ∧ Q xs s1
theorem df_list {x : Str} {p' : Pos} {t : TDA W} (hg : Gl X x) (hm : X.mg x = none) (hv : bootBuiltins x = some (.type "list")) (ha : DA W B X [e] t) (hn : x ≠ "__name__" := by decide) (hdb : (x == ("__debug__" : Str)) = false := by decide)
    (he : starEach [e] X.env = (false, eval e X.env) :: starEach [] X.env := by rfl) (hpl : (backTo pos (starEach [] X.env)).any (·.1) = false := by rfl) : DF W B X (.Call (.Name x p') [e] [] pos) (fItems t) := ⟨pe_imp (pe_callTy call_list_of hg hm hv ha.run hn hdb he hpl) fun σ H Q ⟨Hs, ρ, s, R, S, h1, k⟩ => by
  refine ⟨Hs, ρ, s, _, S, h1, fun ds s1 Hs1 H1 vs hR g rs => ?_⟩
  obtain ⟨d, xs, rfl, hd, hq⟩ := hR
  cases rs with
  | cons r rs =>
    cases rs
    rcases hd with rfl | rfl
    · cases r with
      | @tup a vs _ z hs ra =>
        exact ⟨a, vs, rfl, .inr (SqT_same g.sub hs), fun p hp => k xs s1 Hs1 _ p vs hq (g.mutL hp) upd_same ra (g.sub.free hp) (fun z => W.there g.rel z hp) (free_of g.th hp) z⟩
    · cases r with
      | @lst a vs _ z hs ra =>
        exact ⟨a, vs, rfl, .inl (g.sub.seq hs), fun p hp => k xs s1 Hs1 _ p vs hq (g.mutL hp) upd_same ra (g.sub.free hp) (fun z => W.there g.rel z hp) (free_of g.th hp) z⟩⟩

/-! ### expressions that change a thing of one's own -/
abbrev TDM (W : Wld) := Env → W.S → (D → Env → W.S → Prop) → Prop
def liftM (c : Cn) (W : Wld) (B : Bs W) (t : TDM W) : TE := fun σ H Q => ∃ Hs ρ s R, Stt c W B σ H ρ s Hs ∧ t ρ s R ∧ ∀ d ρ' s' Hs' H' v, R d ρ' s' → Same Hs Hs' → Stt c W B σ H' ρ' s' Hs' → Rp c Hs' v d → Q v H'
structure DM (W : Wld) (B : Bs W) (X : Cx) (e : Expr) (t : TDM W) : Prop where
  run : PE X e (liftM (cn X) W B t)
def dDropM (t : TDM W) : TDS W := fun E ρ s => t ρ s fun _ ρ' s' => E.nx ρ' s'
theorem ds_exprM {t : TDM W} (he : DM W B X e t) (hs : swapsWith e none pos.line X.env = pure false := by rfl) : DS W B X (.Expr e pos) (dDropM t) := ⟨ps_imp (ps_expr he.run hs) fun D σ H ⟨Hs, ρ, s, E, S, h1, k⟩ =>
  ⟨Hs, ρ, s, _, S, h1, fun d ρ' s1 Hs1 H1 v hR e S' r => k.nx ρ' s1 Hs1 σ H1 hR e S'⟩⟩
def dSetM (i : Nat) (t : TDM W) : TDS W := fun E ρ s => t ρ s fun d ρ' s' => E.nx (ρ'.set i (.d d)) s'
theorem ds_setM {i : Nat} {x : Str} {pos' : Pos} {t : TDM W} (hN : X.N.Nodup) (hi : X.N[i]? = some x) (hx : Loc X.env.scope x) (he : DM W B X e t) (hs : swapsWith e (some (.Name x pos')) pos.line X.env = pure false := by rfl) (hf : X.fn x = true ∨ X.env.scope.names.lookup x = some .local := by first | exact .inl rfl | exact .inr rfl | assumption) :
    DS W B X (.Assign [.Name x pos'] e pos) (dSetM i t) := ⟨ps_imp (ps_set hN hi hx he.run hs hf) fun D σ H ⟨Hs, ρ, s, E, S, h1, k⟩ =>
  ⟨Hs, ρ, s, _, S, h1, fun d ρ' s1 Hs1 H1 v hR e S' r => k.nx _ s1 Hs1 _ H1 hR e (S'.set r)⟩⟩
/-- a method of a list of one's own -/
def OwnM (X : Cx) (id : String) (p : List D → List D → (D → List D → Prop) → Prop) : Prop := ∃ r, MtR X id r ∧ ∀ Hs H q vs xs as ds R Q, H q = some (.lst vs) → RpA (cn X) Hs vs xs → RpA (cn X) Hs as ds → Same Hs H → Hs q = none → p xs ds R →
  (∀ d xs' vs' v, R d xs' → RpA (cn X) Hs vs' xs' → Rp (cn X) Hs v d → xs'.length ≤ sizeLine → Q v (upd H q (.lst vs'))) → r (.ref q) as H Q
def mBm (i : Nat) (p : List D → List D → (D → List D → Prop) → Prop) (t : TDA W) : TDM W := fun ρ s Q => ∃ xs, ρ[i]? = some (.own (.lst xs)) ∧ t ρ s fun ds s1 => p xs ds fun d xs' => Q d (ρ.set i (.own (.lst xs'))) s1
section
variable {x name : Str} {p1 apos cpos : Pos} {id : String} {es : List Expr} {i : Nat} {t : TDA W} {p : List D → List D → (D → List D → Prop) → Prop}
theorem dm_bm (slot : PySem.Slot "list" name id) (hty : typeOf (.builtin id) = pure (.type "method_descriptor")) (hm : OwnM X id p) (ho : PE X (.Name x p1) (tVar i)) (ha : DA W B X (e :: es) t)
    (hbase : attributeBase (.Name x p1) name X.env (eval (.Name x p1) X.env) = eval (.Name x p1) X.env := by rfl)
    (hfew : ((backTo cpos (starEach (e :: es) X.env)).all (fun x => !x.1) && (backToKw cpos (keywordEach [] X.env)).all (fun x => x.1.isSome)
      && decide ((e :: es).length + ([] : List Keyword).length + (if ([] : List Keyword).isEmpty then 0 else 1) < 30)) = true := by rfl)
    (hline : (apos.endLine == cpos.line) = true := by rfl) (hs : starEach (e :: es) X.env = (false, eval e X.env) :: starEach es X.env := by rfl) (hplain : (backTo cpos (starEach es X.env)).any (·.1) = false := by rfl) :
    DM W B X (.Call (.Attribute (.Name x p1) name apos) (e :: es) [] cpos) (mBm i p t) := by
  obtain ⟨r, hr, l⟩ := hm
  refine ⟨pe_imp (pe_bm PySem.F.plainAttrs_list slot hty hr ho ha.run hbase hfew hline hs hplain) fun σ H Q h => ?_⟩
  obtain ⟨Hs, ρ, s, R, S, ⟨xs, e1, h1⟩, k⟩ := h
  obtain ⟨q, o, a1, a2, a3, a4, a5, a6⟩ := S.ow i _ e1
  cases a3 with
  | lst z ra =>
    refine ⟨_, a1, .inl ⟨rfl, _, SqL.of a2⟩, Hs, ρ, s, _, S, h1, fun ds s1 Hs1 H1 as hR g rs => ?_⟩
    have S1 := S.step g
    obtain ⟨q', o', b1, b2, b3, b4, b5, b6⟩ := S1.ow i _ e1
    rw [a1] at b1
    cases b1
    cases b3 with
    | lst z' rb =>
      refine l Hs1 H1 q _ xs as ds _ _ b2 rb rs S1.sub b4 hR fun d xs' vs' v hd rx rv hz => ?_
      exact k d _ s1 Hs1 _ v hd g.fz (S1.mut e1 a1 (.lst hz rx)) rv
theorem dm_bm0 (slot : PySem.Slot "list" name id) (hty : typeOf (.builtin id) = pure (.type "method_descriptor")) (hm : OwnM X id p) (ho : PE X (.Name x p1) (tVar i))
    (hbase : attributeBase (.Name x p1) name X.env (eval (.Name x p1) X.env) = eval (.Name x p1) X.env := by rfl) (hline : (apos.endLine == cpos.line) = true := by rfl) :
    DM W B X (.Call (.Attribute (.Name x p1) name apos) [] [] cpos) (mBm i p dNil) := by
  obtain ⟨r, hr, l⟩ := hm
  refine ⟨pe_imp (pe_bm0 PySem.F.plainAttrs_list slot hty hr ho hbase hline) fun σ H Q h => ?_⟩
  obtain ⟨Hs, ρ, s, R, S, ⟨xs, e1, h1⟩, k⟩ := h
  obtain ⟨q, o, a1, a2, a3, a4, a5, a6⟩ := S.ow i _ e1
  cases a3 with
  | lst z ra =>
    refine ⟨_, a1, .inl ⟨rfl, _, SqL.of a2⟩, l Hs H q _ xs [] [] _ _ a2 ra .nil S.sub a4 h1 fun d xs' vs' v hd rx rv hz => ?_⟩
    exact k d _ s Hs _ v hd (Same.refl _) (S.mut e1 a1 (.lst hz rx)) rv
end
/-- x.append(e) -/
theorem ow_append : OwnM X "list.append" (fun xs ds R => ∃ d, ds = [d] ∧ xs.length < sizeLine ∧ R .non (xs ++ [d])) := by
  refine ⟨_, mt_append, fun Hs H q vs xs as ds R Q hq ra rs _ _ h k => ?_⟩
  obtain ⟨d, rfl, hz, hR⟩ := h
  cases rs with
  | cons r rs =>
    cases rs
    exact ⟨q, vs, _, rfl, rfl, hq, by rw [ra.length]; exact hz, k .non _ _ .non hR (ra.append (.one r)) .non (by simp; omega)⟩
end

/-! ### a def -/
section
open PySem.Spec PyProof.Rows
variable {P : Program} {w : World} {K : PySem.W.Frag} {mg : Str → Option Value} {base : Heap}
/-- THE RULE: a def keeps a promise over data, by its body -/
theorem okD {W : Wld} {x qual : Str} {st : Stmt} {f : Addr} {fd : FuncData} {N ps : List Str} {k n : Nat} {ok : OkD W} (F : Fun K x qual st f fd) (S : FnScope N ps (defScope st)) (hn : ps.length = n)
    (hbody : ∀ (cdv : Value) (A : Around) (outer : List PySem.Env) (s : Shared) (H : Hp) (E : XK) (B : Bs W), Room k (A.deeper (envOfC qual (defScope st) s.heap.objs.size f cdv)) →
      ∃ t, DSs W B (cxOf CX0 P w K mg base N qual (defScope st) f cdv A outer s H E).nox (defBody st) t ∧
        ∀ ds s R, ds.length = n → ok ds s R → t { nx := fun _ s' => R .non s', rt := R } (ds.map .d ++ List.replicate (N.length - n) .un) s) : FnOk P w K mg base CX0 (k + 1) f fd ps (spD ⟨P, w, K⟩ W n ok) := by
  refine F.ok S (fun vs H Q E h => ?_) (fun cdv A outer s H vs Q E hr h => ?_)
  · obtain ⟨Hs, s, ds, R, _, _, ra, hl, _⟩ := h
    rw [ra.length, hl, hn]
  · obtain ⟨Hs, s0, ds, R, hrel, hsub, ra, hl, ho, k⟩ := h
    obtain ⟨t, ht, hq⟩ := hbody cdv A outer s H E ⟨s0, Hs, H, fun _ _ _ => False⟩ hr
    refine ⟨_, ht.run, Hs, _, s0, _, ?_, hq ds s0 R hl ho, ⟨fun ρ s' Hs' σ' H' a _ S' => k .non s' Hs' H' .non a S'.go .non, fun d s' Hs' H' v a g r => k d s' Hs' H' v a g r, fun _ _ _ _ _ a => a.elim, fun _ _ _ _ _ a => a.elim⟩⟩
    have q := Stt.start (ex := fun _ _ _ => False) (c := ⟨P, w, K⟩) (W := W) (m := N.length - n) hsub hrel ra
    have e : L2.start N vs = vs.map some ++ List.replicate (N.length - n) none := by
      unfold L2.start
      rw [ra.length, hl]
    rw [e]
    exact q
end
end Dv

set_option Elab.async false
set_option linter.all false
set_option maxRecDepth 100000
/-! Operations on data. -/
namespace Dv
open PySem L2

/-! ### data as the library's data -/
mutual
def D.py : D → PyData
  | .non => .none
  | .bl b => .bool b
  | .int i => .int i
  | .str x => .str x
  | .tup xs => .tuple (pys xs)
  | .lst xs => .list (pys xs)
  | .dic _ => .dict []
  | .raw _ => .none
def pys : List D → List PyData
  | [] => []
  | x :: xs => x.py :: pys xs
end
theorem pys_map : ∀ xs : List D, pys xs = xs.map D.py
  | [] => by simp [pys]
  | x :: xs => by simp [pys, pys_map xs]
/-- of at most n layers, of texts that are texts, no dict, no thing -/
def shp : Nat → D → Bool
  | _, .non => true
  | _, .bl _ => true
  | _, .int _ => true
  | _, .str x => PyData.strOk x
  | 0, .tup _ => false
  | n + 1, .tup xs => xs.all (shp n)
  | 0, .lst _ => false
  | n + 1, .lst xs => xs.all (shp n)
  | _, .dic _ => false
  | _, .raw _ => false
theorem canLayAll_iff : ∀ xs : List PyData, PyData.canLayAll0 xs = xs.all PyData.canLay0
  | [] => by simp [PyData.canLayAll0]
  | x :: xs => by simp [PyData.canLayAll0, canLayAll_iff xs]
theorem depthAll_le {n : Nat} : ∀ {xs : List PyData}, (∀ x ∈ xs, x.depth ≤ n) → PyData.depthAll xs ≤ n
  | [], _ => by simp [PyData.depthAll]
  | x :: xs, h => by
    rw [PyData.depthAll]
    have h1 := h x (by simp)
    have h2 := depthAll_le (n := n) (xs := xs) fun y hy => h y (by simp [hy])
    omega
theorem shp_lay : ∀ {n : Nat} {d : D}, shp n d = true → d.py.canLay0 = true
  | n, .non, _ => by simp [D.py, PyData.canLay0]
  | n, .bl _, _ => by simp [D.py, PyData.canLay0]
  | n, .int _, _ => by simp [D.py, PyData.canLay0]
  | n, .str x, h => by simpa [D.py, PyData.canLay0, shp] using h
  | 0, .tup _, h => by simp [shp] at h
  | 0, .lst _, h => by simp [shp] at h
  | n + 1, .tup xs, h => by
    rw [shp, List.all_eq_true] at h
    rw [D.py, PyData.canLay0, canLayAll_iff, pys_map, List.all_eq_true]
    intro y hy
    obtain ⟨x, hx, rfl⟩ := List.mem_map.mp hy
    exact shp_lay (h x hx)
  | n + 1, .lst xs, h => by
    rw [shp, List.all_eq_true] at h
    rw [D.py, PyData.canLay0, canLayAll_iff, pys_map, List.all_eq_true]
    intro y hy
    obtain ⟨x, hx, rfl⟩ := List.mem_map.mp hy
    exact shp_lay (h x hx)
  | n, .dic _, h => by simp [shp] at h
  | n, .raw _, h => by simp [shp] at h
theorem shp_depth : ∀ {n : Nat} {d : D}, shp n d = true → d.py.depth ≤ n
  | n, .non, _ => by simp [D.py, PyData.depth]
  | n, .bl _, _ => by simp [D.py, PyData.depth]
  | n, .int _, _ => by simp [D.py, PyData.depth]
  | n, .str x, h => by simp [D.py, PyData.depth]
  | 0, .tup _, h => by simp [shp] at h
  | 0, .lst _, h => by simp [shp] at h
  | n + 1, .tup xs, h => by
    rw [shp, List.all_eq_true] at h
    rw [D.py, PyData.depth, pys_map]
    have := depthAll_le (n := n) (xs := xs.map D.py) fun y hy => by
      obtain ⟨x, hx, rfl⟩ := List.mem_map.mp hy
      exact shp_depth (h x hx)
    omega
  | n + 1, .lst xs, h => by
    rw [shp, List.all_eq_true] at h
    rw [D.py, PyData.depth, pys_map]
    have := depthAll_le (n := n) (xs := xs.map D.py) fun y hy => by
      obtain ⟨x, hx, rfl⟩ := List.mem_map.mp hy
      exact shp_depth (h x hx)
    omega
  | n, .dic _, h => by simp [shp] at h
  | n, .raw _, h => by simp [shp] at h
theorem shp_shaped {n : Nat} {d : D} (h : shp n d = true) (hn : n ≤ 64) : SeqAt.shaped d.py = true := by
  unfold SeqAt.shaped
  rw [shp_lay h, Bool.true_and]
  exact decide_eq_true (Nat.le_trans (shp_depth h) hn)
theorem shp_mono : ∀ {n m : Nat} {d : D}, n ≤ m → shp n d = true → shp m d = true
  | n, m, .non, _, _ => by simp [shp]
  | n, m, .bl _, _, _ => by simp [shp]
  | n, m, .int _, _, _ => by simp [shp]
  | n, m, .str x, _, h => by simpa [shp] using h
  | 0, m, .tup _, _, h => by simp [shp] at h
  | 0, m, .lst _, _, h => by simp [shp] at h
  | n + 1, 0, .tup xs, hm, _ => by omega
  | n + 1, 0, .lst xs, hm, _ => by omega
  | n + 1, m + 1, .tup xs, hm, h => by
    rw [shp, List.all_eq_true] at h ⊢
    exact fun x hx => shp_mono (by omega) (h x hx)
  | n + 1, m + 1, .lst xs, hm, h => by
    rw [shp, List.all_eq_true] at h ⊢
    exact fun x hx => shp_mono (by omega) (h x hx)
  | n, m, .dic _, _, h => by simp [shp] at h
  | n, m, .raw _, _, h => by simp [shp] at h
mutual
theorem Rp.dp {c : Cn} {H : Hp} : ∀ {n : Nat} {v : V} {d : D}, shp n d = true → Rp c H v d → Dp c.K H v d.py
  | _, _, _, _, .non => by rw [D.py]; exact .non
  | _, _, _, _, .bl b => by rw [D.py]; exact .bl b
  | _, _, _, _, .int i => by rw [D.py]; exact .int i
  | _, _, _, _, .str z => by rw [D.py]; exact .str _
  | 0, _, _, h, .tup _ _ _ => by simp [shp] at h
  | 0, _, _, h, .lst _ _ _ => by simp [shp] at h
  | n + 1, _, _, h, .tup z s r => by
    rw [shp, List.all_eq_true] at h
    rw [D.py]
    exact .tup s (RpA.dp h r)
  | n + 1, _, _, h, .lst z s r => by
    rw [shp, List.all_eq_true] at h
    rw [D.py]
    exact .lst s (RpA.dp h r)
  | n, _, _, h, .dic _ _ _ _ => by simp [shp] at h
  | n, _, _, h, .raw _ => by simp [shp] at h
theorem RpA.dp {c : Cn} {H : Hp} : ∀ {n : Nat} {vs : List V} {ds : List D}, (∀ d ∈ ds, shp n d = true) → RpA c H vs ds → DpAll c.K H vs (pys ds)
  | _, _, _, _, .nil => by rw [pys]; exact .nil
  | n, _, _, h, .cons r t => by
    rw [pys]
    exact .cons (Rp.dp (h _ (by simp)) r) (RpA.dp (fun d hd => h d (by simp [hd])) t)
end
/-- Python's == -/
def eqD (d e : D) : Bool := PyData.eqv d.py e.py
/-- Python's <, of things alike -/
def ltD (d e : D) : Bool := PySem.W.dataLt d.py e.py
def alikeD (d e : D) : Bool := PySem.W.alike d.py e.py

section
variable {X : Cx}
/-! ### comparisons -/
theorem od_eq (hu : X.A.units + 64 < cLine) (n : Nat) (hn : n ≤ 64 := by decide) : OpD X (compareOp .Eq) (fun d e R => shp n d = true ∧ shp n e = true ∧ R (.bl (eqD d e))) :=
  ⟨_, op_eqD hu, fun Hs H x y d e R Q hs rx ry ⟨h1, h2, h3⟩ k => ⟨d.py, e.py, (rx.same hs).dp h1, (ry.same hs).dp h2, shp_shaped h1 hn, shp_shaped h2 hn, k _ Hs H _ h3 (Lay.refl hs) (.bl _)⟩⟩
theorem od_ne (hu : X.A.units + 64 < cLine) (n : Nat) (hn : n ≤ 64 := by decide) : OpD X (compareOp .NotEq) (fun d e R => shp n d = true ∧ shp n e = true ∧ R (.bl (!eqD d e))) :=
  ⟨_, op_neD hu, fun Hs H x y d e R Q hs rx ry ⟨h1, h2, h3⟩ k => ⟨d.py, e.py, (rx.same hs).dp h1, (ry.same hs).dp h2, shp_shaped h1 hn, shp_shaped h2 hn, k _ Hs H _ h3 (Lay.refl hs) (.bl _)⟩⟩
def rInT (K : PySem.W.Frag) (neg : Bool) : R2 := fun x y H Q => ∃ d ds, Dp K H x d ∧ (Dp K H y (.tuple ds) ∨ Dp K H y (.list ds)) ∧ SeqAt.shaped d = true ∧ SeqAt.shaped (.list ds) = true ∧ Q (.bl (if neg then !ds.any fun z => PyData.eqv z d else ds.any fun z => PyData.eqv z d)) H
theorem op_inTL (hu : X.A.units + 65 < cLine) : OpR X (compareOp .In) (rInT X.K false) := by
  intro pins s σ H x y v u Q I rx ry h
  obtain ⟨d, ds, hd, he, sd, se, q⟩ := h
  obtain ⟨as, r1⟩ := Dp.reads I d x v hd rx
  rcases he with he | he
  · obtain ⟨bs, r2⟩ := Dp.reads I (.tuple ds) y u he ry
    exact SeqAt.in_tuple_reads r2 r1 (SeqAt.canLay_of_shaped se) (SeqAt.canLay_of_shaped sd) (PyProof.Rows.room_in_shaped sd hu) ⟨.bl _, H, I, rfl, q⟩
  · obtain ⟨bs, r2⟩ := Dp.reads I (.list ds) y u he ry
    exact SeqAt.in_list_reads r2 r1 (SeqAt.canLay_of_shaped se) (SeqAt.canLay_of_shaped sd) (PyProof.Rows.room_in_shaped sd hu) ⟨.bl _, H, I, rfl, q⟩
theorem op_ninTL (hu : X.A.units + 65 < cLine) : OpR X (compareOp .NotIn) (rInT X.K true) := by
  intro pins s σ H x y v u Q I rx ry h
  obtain ⟨d, ds, hd, he, sd, se, q⟩ := h
  obtain ⟨as, r1⟩ := Dp.reads I d x v hd rx
  rcases he with he | he
  · obtain ⟨bs, r2⟩ := Dp.reads I (.tuple ds) y u he ry
    exact SeqAt.notIn_tuple_reads r2 r1 (SeqAt.canLay_of_shaped se) (SeqAt.canLay_of_shaped sd) (PyProof.Rows.room_in_shaped sd hu) ⟨.bl _, H, I, rfl, q⟩
  · obtain ⟨bs, r2⟩ := Dp.reads I (.list ds) y u he ry
    exact SeqAt.notIn_list_reads r2 r1 (SeqAt.canLay_of_shaped se) (SeqAt.canLay_of_shaped sd) (PyProof.Rows.room_in_shaped sd hu) ⟨.bl _, H, I, rfl, q⟩
/-- d is among the items -/
def inD (d : D) (xs : List D) : Bool := xs.any fun z => eqD z d
theorem any_py (d : D) (xs : List D) : ((pys xs).any fun z => PyData.eqv z d.py) = inD d xs := by
  rw [pys_map, List.any_map]
  rfl
theorem lk_in (n : Nat) (hn : n < 64) (neg : Bool) : Lk2 X (rInT X.K neg) (fun d e R => ∃ xs, (e = .tup xs ∨ e = .lst xs) ∧ shp n d = true ∧ (∀ x ∈ xs, shp n x = true) ∧ R (.bl (if neg then !inD d xs else inD d xs))) :=
  fun Hs H x y d e R Q hs rx ry ⟨xs, he, h1, h2, h3⟩ k => by
    have sl : shp (n + 1) (.lst xs) = true := by rw [shp, List.all_eq_true]; exact h2
    have st : shp (n + 1) (.tup xs) = true := by rw [shp, List.all_eq_true]; exact h2
    have e1 : SeqAt.shaped (.list (pys xs)) = true := by
      have := shp_shaped sl (by omega)
      rwa [D.py] at this
    refine ⟨d.py, pys xs, (rx.same hs).dp h1, ?_, shp_shaped h1 (by omega), e1, ?_⟩
    · rcases he with rfl | rfl
      · have := (ry.same hs).dp st
        rw [D.py] at this
        exact .inl this
      · have := (ry.same hs).dp sl
        rw [D.py] at this
        exact .inr this
    · have := k _ Hs H _ h3 (Lay.refl hs) (.bl _)
      rw [any_py]
      exact this
theorem od_in (hu : X.A.units + 65 < cLine) (n : Nat) (hn : n < 64 := by decide) : OpD X (compareOp .In) (fun d e R => ∃ xs, (e = .tup xs ∨ e = .lst xs) ∧ shp n d = true ∧ (∀ x ∈ xs, shp n x = true) ∧ R (.bl (inD d xs))) :=
  ⟨_, op_inTL hu, lk_in n hn false⟩
theorem od_nin (hu : X.A.units + 65 < cLine) (n : Nat) (hn : n < 64 := by decide) : OpD X (compareOp .NotIn) (fun d e R => ∃ xs, (e = .tup xs ∨ e = .lst xs) ∧ shp n d = true ∧ (∀ x ∈ xs, shp n x = true) ∧ R (.bl (!inD d xs))) :=
  ⟨_, op_ninTL hu, lk_in n hn true⟩
/-- is None -/
def isN : D → Bool
  | .non => true
  | .raw v => decide (v = .non)
  | _ => false
theorem isN_of {c : Cn} {H : Hp} {v : V} {d : D} (r : Rp c H v d) : decide (v = .non) = isN d := by
  cases r <;> first | rfl | exact decide_eq_false (fun z => nomatch z)
theorem od_isN : OpD X (compareOp .Is) (fun d e R => e = .non ∧ R (.bl (isN d))) :=
  ⟨_, op_isN, fun Hs H x y d e R Q hs rx ry ⟨h1, h2⟩ k => by
    subst h1
    cases ry
    exact ⟨rfl, by rw [isN_of rx]; exact k _ Hs H _ h2 (Lay.refl hs) (.bl _)⟩⟩
theorem od_notN : OpD X (compareOp .IsNot) (fun d e R => e = .non ∧ R (.bl (!isN d))) :=
  ⟨_, op_notN, fun Hs H x y d e R Q hs rx ry ⟨h1, h2⟩ k => by
    subst h1
    cases ry
    exact ⟨rfl, by rw [isN_of rx]; exact k _ Hs H _ h2 (Lay.refl hs) (.bl _)⟩⟩
/-- x is True, x is False; x None or a truth -/
def isB : D → Bool → Option Bool
  | .non, _ => some false
  | .bl a, b => some (a == b)
  | _, _ => none
theorem op_isNB : OpR X (compareOp .Is) (fun x y H Q => ∃ b k, y = .bl b ∧ ((x = .non ∧ k = false) ∨ ∃ a, x = .bl a ∧ k = (a == b)) ∧ Q (.bl k) H) := by
  intro pins s σ H x y v u Q I rx ry h
  obtain ⟨b, k, rfl, h, q⟩ := h
  cases (show u = Value.bool b from ry)
  rcases h with ⟨rfl, rfl⟩ | ⟨a, rfl, rfl⟩
  · cases (show v = Value.none from rx)
    exact wpAny_is_other rfl (fun z => nomatch z) ⟨.bl false, H, I, rfl, q⟩
  · cases (show v = Value.bool a from rx)
    by_cases e : a = b
    · subst e
      exact wpAny_is_self rfl ⟨.bl true, H, I, rfl, by simpa using q⟩
    · exact wpAny_is_other rfl (fun z => e (Value.bool.inj z)) ⟨.bl false, H, I, rfl, by rw [show (a == b) = false from beq_eq_false_iff_ne.mpr e] at q; exact q⟩
theorem od_isB : OpD X (compareOp .Is) (fun d e R => ∃ b k, e = .bl b ∧ isB d b = some k ∧ R (.bl k)) :=
  ⟨_, op_isNB, fun Hs H x y d e R Q hs rx ry ⟨b, k, h1, h2, h3⟩ kk => by
    subst h1
    have e := ry.blE
    have q := kk _ Hs H _ h3 (Lay.refl hs) (.bl _)
    cases d with
    | non =>
      cases rx
      exact ⟨b, k, e, .inl ⟨rfl, (Option.some.inj h2).symm⟩, q⟩
    | bl a =>
      cases rx
      exact ⟨b, k, e, .inr ⟨a, rfl, (Option.some.inj h2).symm⟩, q⟩
    | _ => cases h2⟩

/-! ### order -/
def rCmpD (K : PySem.W.Frag) (f : PyData → PyData → Bool) : R2 := fun x y H Q => ∃ d e, Dp K H x d ∧ Dp K H y e ∧ PySem.W.alike d e = true ∧ d ≠ .none ∧ d.depth ≤ 60 ∧ Q (.bl (f d e)) H
theorem op_ltD (hu : X.A.units + 64 < cLine) : OpR X (compareOp .Lt) (rCmpD X.K PySem.W.dataLt) := by
  intro pins s σ H x y v u Q I rx ry h
  obtain ⟨d, e, hd, he, al, hn, hz, q⟩ := h
  obtain ⟨as, r1⟩ := Dp.reads I d x v hd rx
  obtain ⟨bs, r2⟩ := Dp.reads I e y u he ry
  exact PySem.W.lt_data r1 r2 al hn (by have := Nat.min_le_left d.depth e.depth; omega) ⟨.bl _, H, I, rfl, q⟩
theorem op_gtD (hu : X.A.units + 64 < cLine) : OpR X (compareOp .Gt) (rCmpD X.K fun d e => PySem.W.dataLt e d) := by
  intro pins s σ H x y v u Q I rx ry h
  obtain ⟨d, e, hd, he, al, hn, hz, q⟩ := h
  obtain ⟨as, r1⟩ := Dp.reads I d x v hd rx
  obtain ⟨bs, r2⟩ := Dp.reads I e y u he ry
  exact PySem.W.gt_data r1 r2 al hn (by have := Nat.min_le_left d.depth e.depth; omega) ⟨.bl _, H, I, rfl, q⟩
theorem op_leD (hu : X.A.units + 64 < cLine) : OpR X (compareOp .LtE) (rCmpD X.K fun d e => !PySem.W.dataLt e d) := by
  intro pins s σ H x y v u Q I rx ry h
  obtain ⟨d, e, hd, he, al, hn, hz, q⟩ := h
  obtain ⟨as, r1⟩ := Dp.reads I d x v hd rx
  obtain ⟨bs, r2⟩ := Dp.reads I e y u he ry
  exact PySem.W.le_data r1 r2 al hn (by have := Nat.min_le_left d.depth e.depth; omega) ⟨.bl _, H, I, rfl, q⟩
theorem op_geD (hu : X.A.units + 64 < cLine) : OpR X (compareOp .GtE) (rCmpD X.K fun d e => !PySem.W.dataLt d e) := by
  intro pins s σ H x y v u Q I rx ry h
  obtain ⟨d, e, hd, he, al, hn, hz, q⟩ := h
  obtain ⟨as, r1⟩ := Dp.reads I d x v hd rx
  obtain ⟨bs, r2⟩ := Dp.reads I e y u he ry
  exact PySem.W.ge_data r1 r2 al hn (by have := Nat.min_le_left d.depth e.depth; omega) ⟨.bl _, H, I, rfl, q⟩
/-- the four orders: of ints, of texts, of data alike -/
def cmpP (fi : Int → Int → Bool) (fd : D → D → Bool) : P2 := fun d e R => match d, e with
  | .int i, .int j => R (.bl (fi i j))
  | d, e => ∃ n, n ≤ 60 ∧ shp n d = true ∧ shp n e = true ∧ alikeD d e = true ∧ d ≠ .non ∧ R (.bl (fd d e))
theorem py_ne_none {n : Nat} {d : D} (h : shp n d = true) (hn : d ≠ .non) : d.py ≠ .none := by
  cases d with
  | non => exact absurd rfl hn
  | raw v => simp [shp] at h
  | _ => rw [D.py]; exact fun z => nomatch z
theorem lk_cmp {fi : Int → Int → Bool} {fd : PyData → PyData → Bool} : Lk2 X (fun x y H Q => (rI0 fun i j => .bl (fi i j)) x y H Q ∨ rCmpD X.K fd x y H Q) (cmpP fi fun d e => fd d.py e.py) := by
  intro Hs H x y d e R Q hs rx ry h k
  have go : (∃ n, n ≤ 60 ∧ shp n d = true ∧ shp n e = true ∧ alikeD d e = true ∧ d ≠ .non ∧ R (.bl (fd d.py e.py))) → rCmpD X.K fd x y H Q := fun ⟨n, h0, h1, h2, h3, h4, h5⟩ =>
    ⟨d.py, e.py, (rx.same hs).dp h1, (ry.same hs).dp h2, h3, py_ne_none h1 h4, Nat.le_trans (shp_depth h1) h0, k _ Hs H _ h5 (Lay.refl hs) (.bl _)⟩
  unfold cmpP at h
  split at h
  · cases rx
    cases ry
    exact .inl ⟨_, _, rfl, rfl, k _ Hs H _ h (Lay.refl hs) (.bl _)⟩
  · exact .inr (go h)
theorem od_lt (hu : X.A.units + 64 < cLine) : OpD X (compareOp .Lt) (cmpP (fun i j => decide (i < j)) ltD) := ⟨_, op_lt.or (op_ltD hu), lk_cmp⟩
theorem od_gt (hu : X.A.units + 64 < cLine) : OpD X (compareOp .Gt) (cmpP (fun i j => decide (j < i)) fun d e => ltD e d) := ⟨_, op_gt.or (op_gtD hu), lk_cmp⟩
theorem od_le (hu : X.A.units + 64 < cLine) : OpD X (compareOp .LtE) (cmpP (fun i j => decide (i ≤ j)) fun d e => !ltD e d) := ⟨_, op_le.or (op_leD hu), lk_cmp⟩
theorem od_ge (hu : X.A.units + 64 < cLine) : OpD X (compareOp .GtE) (cmpP (fun i j => decide (j ≤ i)) fun d e => !ltD d e) := ⟨_, op_ge.or (op_geD hu), lk_cmp⟩

/-! ### arithmetic, joining -/
def rCatL (K : PySem.W.Frag) : R2 := fun x y H Q => ∃ l b xs zs, x = .ref l ∧ y = .ref b ∧ SqL K H l xs ∧ SqL K H b zs ∧ xs.length + zs.length ≤ sizeLine ∧ ∀ p, H p = none → Q (.ref p) (upd H p (.lst (xs ++ zs)))
theorem op_catL : OpR X (binaryOp .Add) (rCatL X.K) := by
  intro pins s σ H x y v u Q I rx ry h
  obtain ⟨l, b, xs, zs, rfl, rfl, hH, hB, hz, q⟩ := h
  cases rx
  cases ry
  obtain ⟨its, r, ⟨o, n, e, hc, hd, hdt⟩, z⟩ := I.list hH
  obtain ⟨its2, r2, ⟨o2, n2, e2, hc2, hd2, hdt2⟩, z2⟩ := I.list hB
  have hl := r.length
  have hl2 := r2.length
  obtain ⟨oc, od, dt, sl⟩ := o
  obtain ⟨oc2, od2, dt2, sl2⟩ := o2
  simp only at hc hd hdt hc2 hd2 hdt2
  subst hc hd hdt hc2 hd2 hdt2
  have ea : its.toArray ++ its2.toArray = (its ++ its2).toArray := by simp
  refine concat_meets ⟨_, e, rfl⟩ ⟨_, e2, rfl⟩ noFill_list_add seq_list_add PySem.F.slot_list_add PySem.F.entry_list_add (PySem.F.args_list_add_2 _ _) (PyProof.Rows.list_addW l b its.toArray its2.toArray n n2 none none sl sl2 (by simp only [List.size_toArray]; omega)) ⟨e, e2, ?_⟩
  rw [ea]
  exact ⟨.ref _, _, I.lnew (t' := s.toks) (r.append r2) (by rw [List.length_append]; omega), rfl, q _ I.fresh⟩
def addP : P2 := fun d e R => match d, e with
  | .int i, .int j => R (.int (i + j))
  | .str x, .str y => x.length + y.length ≤ sizeLine ∧ R (.str (x ++ y))
  | .tup xs, .tup ys => xs.length + ys.length ≤ sizeLine ∧ R (.tup (xs ++ ys))
  | .lst xs, .lst ys => xs.length + ys.length ≤ sizeLine ∧ R (.lst (xs ++ ys))
  | _, _ => False
theorem od_add : OpD X (binaryOp .Add) addP := by
  refine ⟨_, op_add.or (op_add_str.or (op_catA.or op_catL)), fun Hs H x y d e R Q hs rx ry h k => ?_⟩
  unfold addP at h
  split at h
  · cases rx
    cases ry
    exact .inl ⟨_, _, rfl, rfl, k _ Hs H _ h (Lay.refl hs) (.int _)⟩
  · cases rx
    cases ry
    refine .inr (.inl ⟨_, _, rfl, rfl, h.1, k _ Hs H _ h.2 (Lay.refl hs) (.str ?_)⟩)
    rw [Str.length_append]
    exact h.1
  · rename_i xs ys
    cases rx with
    | @tup a vs _ z hq ra =>
      cases ry with
      | @tup b ws _ z2 hq2 rb =>
        have l1 := ra.length
        have l2 := rb.length
        refine .inr (.inr (.inl ⟨a, b, vs, ws, rfl, rfl, SqT_same hs hq, SqT_same hs hq2, by omega, fun e => ?_, fun _ e => ?_, fun _ _ p hp => ?_⟩))
        · subst e
          cases ra
          exact k _ Hs H _ h.2 (Lay.refl hs) (.tup z2 hq2 rb)
        · subst e
          cases rb
          refine k _ Hs H _ h.2 (Lay.refl hs) ?_
          rw [List.append_nil]
          exact .tup z hq ra
        · exact k _ _ _ _ h.2 (Lay.one hs hp) (.tupN (hs.free hp) (by rw [List.length_append]; exact h.1) (ra.append rb))
  · rename_i xs ys
    cases rx with
    | @lst a vs _ z hq ra =>
      cases ry with
      | @lst b ws _ z2 hq2 rb =>
        have l1 := ra.length
        have l2 := rb.length
        exact .inr (.inr (.inr ⟨a, b, vs, ws, rfl, rfl, hs.seq hq, hs.seq hq2, by omega, fun p hp => k _ _ _ _ h.2 (Lay.one hs hp) (.lstN (hs.free hp) (by rw [List.length_append]; exact h.1) (ra.append rb))⟩))
  · exact h.elim
def intP (C : Int → Int → Prop) (f : Int → Int → Int) : P2 := fun d e R => ∃ i j, d = .int i ∧ e = .int j ∧ C i j ∧ R (.int (f i j))
theorem lk_int {C : Int → Int → Prop} {f : Int → Int → Int} : Lk2 X (rI C fun i j => .int (f i j)) (intP C f) := fun Hs H x y d e R Q hs rx ry ⟨i, j, h1, h2, h3, h4⟩ k => by
  subst h1 h2
  exact ⟨i, j, rx.intE, ry.intE, h3, k _ Hs H _ h4 (Lay.refl hs) (.int _)⟩
theorem lk_int0 {f : Int → Int → Int} : Lk2 X (rI0 fun i j => .int (f i j)) (intP (fun _ _ => True) f) := fun Hs H x y d e R Q hs rx ry ⟨i, j, h1, h2, _, h4⟩ k => by
  subst h1 h2
  exact ⟨i, j, rx.intE, ry.intE, k _ Hs H _ h4 (Lay.refl hs) (.int _)⟩
theorem od_sub : OpD X (binaryOp .Sub) (intP (fun _ _ => True) fun i j => i - j) := ⟨_, op_sub, lk_int0⟩
theorem od_mul : OpD X (binaryOp .Mult) (intP CMulW fun i j => i * j) := ⟨_, op_mulW, lk_int⟩
theorem od_mod : OpD X (binaryOp .Mod) (intP (fun _ j => 0 < j) fun i j => i % j) := ⟨_, op_mod, lk_int⟩
theorem od_fdiv : OpD X (binaryOp .FloorDiv) (intP CDivW fun i j => i / j) := ⟨_, op_fdivW, lk_int⟩
theorem od_pow : OpD X (binaryOp .Pow) (intP CPow fun i j => i ^ j.toNat) := ⟨_, op_pow, lk_int⟩
theorem ud_neg : UnD X (unaryOp .USub) (fun d R => ∃ i, d = .int i ∧ R (.int (-i))) := ⟨_, un_neg, fun Hs H x d R Q hs rx ⟨i, h1, h2⟩ k => by
  subst h1
  exact ⟨i, rx.intE, k _ Hs H _ h2 (Lay.refl hs) (.int _)⟩⟩
/-- (x, ..) * n -/
theorem od_rep : OpD X (binaryOp .Mult) (fun d e R => ∃ xs n, d = .tup xs ∧ e = .int n ∧ xs ≠ [] ∧ 2 ≤ n ∧ n ≤ 1000 ∧ xs.length ≤ 1000 ∧ R (.tup (List.replicate n.toNat xs).flatten)) := by
  refine ⟨_, op_repT, fun Hs H x y d e R Q hs rx ry ⟨xs, n, h1, h2, h3, h4, h5, h6, h7⟩ k => ?_⟩
  subst h1 h2
  cases rx with
  | @tup a vs _ z hq ra =>
    have l := ra.length
    refine ⟨a, n, vs, rfl, ry.intE, SqT_same hs hq, fun e => h3 ?_, h4, h5, by omega, fun p hp => ?_⟩
    · subst e; cases ra; rfl
    · have rr : ∀ m : Nat, RpA (cn X) Hs (List.replicate m vs).flatten (List.replicate m xs).flatten := fun m => by
        induction m with
        | zero => exact .nil
        | succ m ih =>
          rw [List.replicate_succ, List.replicate_succ, List.flatten_cons, List.flatten_cons]
          exact ra.append ih
      have hl : ∀ m : Nat, (List.replicate m xs).flatten.length = m * xs.length := fun m => by
        induction m with
        | zero => simp
        | succ m ih => rw [List.replicate_succ, List.flatten_cons, List.length_append, ih, Nat.succ_mul, Nat.add_comm]
      refine k _ _ _ _ h7 (Lay.one hs hp) (.tupN (hs.free hp) ?_ (rr _))
      rw [hl]
      have : n.toNat * xs.length ≤ 1000 * 1000 := Nat.mul_le_mul (by omega) h6
      have e : sizeLine = 16777216 := sizeLine_eq
      omega
end
end Dv

set_option Elab.async false
set_option linter.all false
set_option maxRecDepth 100000
/-! Built-ins over data. -/
namespace Dv
open PySem L2

section
variable {X : Cx}
/-! ### isinstance -/
def tyD : D → Option String
  | .non => some "NoneType"
  | .bl _ => some "bool"
  | .int _ => some "int"
  | .str _ => some "str"
  | .tup _ => some "tuple"
  | .lst _ => some "list"
  | .dic _ => some "dict"
  | .raw _ => none
theorem Rp.kit {pins : List (Addr × Obj)} {σ : L2.St} {H : Hp} {s : Shared} {x : V} {u : Value} {d : D} {t : String} (I : Inv X pins σ H s) (r : Rp (cn X) H x d) (ht : tyD d = some t) (rx : RelV x u) :
    ∃ P : Heap → Prop, PySem.W.KitX X.K u (.type t) P ∧ P s.heap ∧ u ≠ .builtin "__main__.__loader__#opaque" := by
  cases r with
  | non => cases ht; cases (show u = Value.none from rx); exact ⟨_, PySem.W.kitx_none, True.intro, fun z => nomatch z⟩
  | bl y => cases ht; cases (show u = Value.bool y from rx); exact ⟨_, PySem.W.kitx_bool, True.intro, fun z => nomatch z⟩
  | int i => cases ht; obtain ⟨t, q⟩ := (show ∃ t, u = Value.int i t from rx); cases q; exact ⟨_, PySem.W.kitx_int, True.intro, fun z => nomatch z⟩
  | str z => cases ht; obtain ⟨t, q⟩ := rx; cases q; exact ⟨_, PySem.W.kitx_str, True.intro, fun z => nomatch z⟩
  | @tup a vs ds z hs ra =>
    cases ht
    cases (show u = Value.ref a from rx)
    obtain ⟨its, rv, ⟨o, h1, h2, _⟩, _⟩ := I.tuple hs
    exact ⟨_, PySem.W.kitx_tuple, ⟨o, h1, h2⟩, fun z => nomatch z⟩
  | @lst a vs ds z hs ra =>
    cases ht
    cases (show u = Value.ref a from rx)
    obtain ⟨its, rv, ⟨o, n, h1, h2, _⟩, _⟩ := I.list hs
    exact ⟨_, PySem.W.kitx_list, ⟨o, h1, h2⟩, fun z => nomatch z⟩
  | @dic a o es kvs hd fx re nd =>
    cases ht
    cases (show u = Value.ref a from rx)
    exact ⟨_, PySem.W.kitx_dict, ⟨o, Inv.dat I hd, fx.ex.1⟩, fun z => nomatch z⟩
  | raw v => cases ht
def rIsX (X : Cx) : List V → Hp → VK → Prop := fun xs H Q => ∃ (x : V) (d : D) (t n : String) (b : Bool), xs = [x, .ty n] ∧ Rp (cn X) H x d ∧ tyD d = some t ∧ kitB t n = some b ∧ Q (.bl b) H
theorem call_isX : CallR X (.builtin "isinstance") (rIsX X) := by
  intro pins s σ H xs us Q I r h
  obtain ⟨x, d, t, n, b, rfl, rd, ht, hb, q⟩ := h
  obtain ⟨u1, u2, rfl, r1, r2⟩ := vals2 r
  cases (show u2 = Value.type n from r2)
  obtain ⟨P, Z, p, hx⟩ := rd.kit I ht r1
  exact PySem.W.kia_one Z I.kIn p (kit_ty hb) hx fun tk => ⟨.bl b, H, I.tok tk, rfl, q⟩
/-- isinstance(d, n) -/
def isiD (d : D) (n : String) : Option Bool := (tyD d).bind fun t => kitB t n
theorem cd_isi : CallD X (.builtin "isinstance") (fun ds R => ∃ d n b, ds = [d, .raw (.ty n)] ∧ isiD d n = some b ∧ R (.bl b)) :=
  ⟨_, call_isX, fun Hs H vs ds R Q hs ra ⟨d, n, b, e, hb, h⟩ k => by
    subst e
    cases ra with
    | cons r ra =>
      cases ra with
      | cons r2 ra =>
        cases ra
        unfold isiD at hb
        cases ht : tyD d with
        | none => rw [ht] at hb; cases hb
        | some t =>
          rw [ht] at hb
          cases r2
          exact ⟨_, d, t, n, b, rfl, r.same hs, ht, hb, k _ Hs H _ h (Lay.refl hs) (.bl _)⟩⟩
def isTy (t n : String) : Bool := t == n || (t == "bool" && n == "int")
theorem kit_all : (["NoneType", "bool", "int", "str", "tuple", "list", "dict"].all fun t => ["bool", "int", "str", "tuple", "list", "dict"].all fun n => kitB t n == some (isTy t n)) = true := by decide +kernel
theorem isi_of {d : D} {t n : String} (ht : tyD d = some t) (h1 : t ∈ ["NoneType", "bool", "int", "str", "tuple", "list", "dict"] := by decide) (h2 : n ∈ ["bool", "int", "str", "tuple", "list", "dict"] := by decide) : isiD d n = some (isTy t n) := by
  unfold isiD
  rw [ht]
  have := kit_all
  rw [List.all_eq_true] at this
  have := this t h1
  rw [List.all_eq_true] at this
  exact beq_iff_eq.mp (this n h2)
/-- isinstance, in plain words -/
def isI : D → String → Bool
  | .non, _ => false
  | .bl _, n => n == "bool" || n == "int"
  | .int _, n => n == "int"
  | .str _, n => n == "str"
  | .tup _, n => n == "tuple"
  | .lst _, n => n == "list"
  | .dic _, n => n == "dict"
  | .raw _, _ => false
theorem isiD_eq {d : D} {n : String} (hd : ∀ v, d ≠ .raw v) (h : n ∈ ["bool", "int", "str", "tuple", "list", "dict"]) : isiD d n = some (isI d n) := by
  have key : ∀ t, tyD d = some t → t ∈ ["NoneType", "bool", "int", "str", "tuple", "list", "dict"] → isTy t n = isI d n → isiD d n = some (isI d n) := fun t a b c => by
    rw [isi_of a b h, c]
  simp only [List.mem_cons, List.mem_nil_iff, or_false] at h
  cases d with
  | raw v => exact absurd rfl (hd v)
  | _ => rcases h with rfl | rfl | rfl | rfl | rfl | rfl <;> exact key _ rfl (by decide) (by rfl)

/-! ### len, abs, max, min, int -/
def lenD : D → Option Nat
  | .tup xs => some xs.length
  | .lst xs => some xs.length
  | .str x => some x.length
  | _ => none
theorem cd_len : CallD X (.builtin "len") (fun ds R => ∃ d n, ds = [d] ∧ lenD d = some n ∧ (n ≤ sizeLine → R (.int n))) :=
  ⟨_, call_len, fun Hs H vs ds R Q hs ra ⟨d, n, e, hn, h⟩ k => by
    subst e
    cases ra with
    | cons r ra =>
      cases ra
      have q : n ≤ sizeLine → _ := fun hz => k _ Hs H _ (h hz) (Lay.refl hs) (.int _)
      cases r with
      | @tup a vs _ z hq rb =>
        cases hn
        exact ⟨_, _, rfl, .inr ⟨vs, SqT_same hs hq, rb.length.symm⟩, q z⟩
      | @lst a vs _ z hq rb =>
        cases hn
        exact ⟨_, _, rfl, .inl ⟨vs, hs.seq hq, rb.length.symm⟩, q z⟩
      | str z =>
        cases hn
        exact ⟨_, _, rfl, ⟨z, rfl⟩, q z⟩
      | _ => cases hn⟩
theorem RpA.ints1 {c : Cn} {H : Hp} {vs : List V} {i : Int} (r : RpA c H vs [.int i]) : vs = [.int i] := by
  cases r with
  | cons a b =>
    cases b
    rw [a.intE]
theorem RpA.ints2 {c : Cn} {H : Hp} {vs : List V} {i j : Int} (r : RpA c H vs [.int i, .int j]) : vs = [.int i, .int j] := by
  cases r with
  | cons a b =>
    cases b with
    | cons b c =>
      cases c
      rw [a.intE, b.intE]
theorem cd_abs : CallD X (.builtin "abs") (fun ds R => ∃ i, ds = [.int i] ∧ R (.int (if i < 0 then -i else i))) :=
  ⟨_, call_abs, fun Hs H vs ds R Q hs ra ⟨i, e, h⟩ k => by
    subst e
    exact ⟨i, ra.ints1, k _ Hs H _ h (Lay.refl hs) (.int _)⟩⟩
theorem cd_max2 (hc : X.calm = true) : CallD X (.builtin "max") (fun ds R => ∃ i j, ds = [.int i, .int j] ∧ R (.int (if j > i then j else i))) :=
  ⟨_, call_max2 hc, fun Hs H vs ds R Q hs ra ⟨i, j, e, h⟩ k => by
    subst e
    exact ⟨i, j, ra.ints2, k _ Hs H _ h (Lay.refl hs) (.int _)⟩⟩
theorem cd_min2 (hc : X.calm = true) : CallD X (.builtin "min") (fun ds R => ∃ i j, ds = [.int i, .int j] ∧ R (.int (if j < i then j else i))) :=
  ⟨_, call_min2 hc, fun Hs H vs ds R Q hs ra ⟨i, j, e, h⟩ k => by
    subst e
    exact ⟨i, j, ra.ints2, k _ Hs H _ h (Lay.refl hs) (.int _)⟩⟩
theorem cd_int : CallD X (.type "int") (fun ds R => (∃ i, ds = [.int i] ∧ R (.int i)) ∨ ∃ b, ds = [.bl b] ∧ R (.int (if b then 1 else 0))) :=
  ⟨_, call_int1, fun Hs H vs ds R Q hs ra h k => by
    rcases h with ⟨i, e, h⟩ | ⟨b, e, h⟩
    · subst e
      exact .inl ⟨i, ra.ints1, k _ Hs H _ h (Lay.refl hs) (.int _)⟩
    · subst e
      cases ra with
      | cons r ra =>
        cases ra
        rw [r.blE]
        exact .inr ⟨b, rfl, k _ Hs H _ h (Lay.refl hs) (.int _)⟩⟩

/-! ### tuple, list -/
theorem cd_tuple : CallD X (.type "tuple") (fun ds R => ∃ d xs, ds = [d] ∧ (d = .tup xs ∨ d = .lst xs) ∧ R (.tup xs)) :=
  ⟨_, call_tuple_of, fun Hs H vs ds R Q hs ra ⟨d, xs, e, hd, h⟩ k => by
    subst e
    cases ra with
    | cons r ra =>
      cases ra
      rcases hd with rfl | rfl
      · cases r with
        | @tup a vs _ z hq rb => exact ⟨a, vs, rfl, .inr ⟨SqT_same hs hq, k _ Hs H _ h (Lay.refl hs) (.tup z hq rb)⟩⟩
      · cases r with
        | @lst a vs _ z hq rb => exact ⟨a, vs, rfl, .inl ⟨hs.seq hq, fun p hp => k _ _ _ _ h (Lay.one hs hp) (.tupN (hs.free hp) z rb)⟩⟩⟩
theorem cd_list : CallD X (.type "list") (fun ds R => ∃ d xs, ds = [d] ∧ (d = .tup xs ∨ d = .lst xs) ∧ R (.lst xs)) :=
  ⟨_, call_list_of, fun Hs H vs ds R Q hs ra ⟨d, xs, e, hd, h⟩ k => by
    subst e
    cases ra with
    | cons r ra =>
      cases ra
      rcases hd with rfl | rfl
      · cases r with
        | @tup a vs _ z hq rb => exact ⟨a, vs, rfl, .inr (SqT_same hs hq), fun p hp => k _ _ _ _ h (Lay.one hs hp) (.lstN (hs.free hp) z rb)⟩
      · cases r with
        | @lst a vs _ z hq rb => exact ⟨a, vs, rfl, .inl (hs.seq hq), fun p hp => k _ _ _ _ h (Lay.one hs hp) (.lstN (hs.free hp) z rb)⟩⟩

/-! ### all, any, sum -/
theorem rpa_bls {c : Cn} {H : Hp} : ∀ {bs : List Bool} {vs : List V}, RpA c H vs (bs.map D.bl) → vs = bs.map V.bl
  | [], _, r => by
    cases r
    rfl
  | b :: bs, _, r => by
    cases r with
    | cons a t => rw [a.blE, rpa_bls t, List.map_cons]
theorem rpa_ints {c : Cn} {H : Hp} : ∀ {ns : List Int} {vs : List V}, RpA c H vs (ns.map D.int) → vs = ns.map V.int
  | [], _, r => by
    cases r
    rfl
  | b :: bs, _, r => by
    cases r with
    | cons a t => rw [a.intE, rpa_ints t, List.map_cons]
theorem cd_all (hc : X.calm = true) : CallD X (.builtin "all") (fun ds R => ∃ bs : List Bool, ds = [.lst (bs.map .bl)] ∧ R (.bl (bs.all id))) :=
  ⟨_, cr_all hc, fun Hs H vs ds R Q hs ra ⟨bs, e, h⟩ k => by
    subst e
    cases ra with
    | cons r ra =>
      cases ra
      cases r with
      | @lst a vs _ z hq rb =>
        rw [rpa_bls rb] at hq
        exact ⟨a, bs, rfl, hs.seq hq, k _ Hs H _ h (Lay.refl hs) (.bl _)⟩⟩
theorem cd_any (hc : X.calm = true) : CallD X (.builtin "any") (fun ds R => ∃ bs : List Bool, ds = [.lst (bs.map .bl)] ∧ R (.bl (bs.any id))) :=
  ⟨_, cr_any hc, fun Hs H vs ds R Q hs ra ⟨bs, e, h⟩ k => by
    subst e
    cases ra with
    | cons r ra =>
      cases ra
      cases r with
      | @lst a vs _ z hq rb =>
        rw [rpa_bls rb] at hq
        exact ⟨a, bs, rfl, hs.seq hq, k _ Hs H _ h (Lay.refl hs) (.bl _)⟩⟩
theorem cd_sum (hc : X.calm = true) : CallD X (.builtin "sum") (fun ds R => ∃ ns : List Int, ds = [.lst (ns.map .int)] ∧ R (.int ns.sum)) :=
  ⟨_, cr_sum hc, fun Hs H vs ds R Q hs ra ⟨bs, e, h⟩ k => by
    subst e
    cases ra with
    | cons r ra =>
      cases ra
      cases r with
      | @lst a vs _ z hq rb =>
        rw [rpa_ints rb] at hq
        exact ⟨a, bs, rfl, hs.seq hq, k _ Hs H _ h (Lay.refl hs) (.int _)⟩⟩

/-! ### sorted -/
def sortD (xs : List D) : List D := xs.mergeSort fun a b => !ltD b a
/-- what a list must be to be sorted -/
structure SortOk (n : Nat) (xs : List D) : Prop where
  shp : ∀ x ∈ xs, Dv.shp n x = true
  alike : ∀ x ∈ xs, ∀ y ∈ xs, alikeD x y = true
  kind : (∀ x ∈ xs, ∃ y r, x = .tup (y :: r)) ∨ ∀ x ∈ xs, x ≠ .non ∧ ∀ ys, x ≠ .tup ys
/-- the value u is the datum d (with its V) -/
def RsV (c : Cn) (H : Hp) (u : Value) (d : D) : Prop := ∃ v, RelV v u ∧ Rp c H v d
theorem each_rs {c : Cn} {H : Hp} : ∀ {vs : List V} {us : List Value} {ds : List D}, Vals vs us → RpA c H vs ds → PySem.W.EachIs (RsV c H) us ds
  | _, _, _, .nil, .nil => .nil
  | _, _, _, .cons r t, .cons a b => .cons ⟨_, r, a⟩ (each_rs t b)
theorem of_each {c : Cn} {H : Hp} : ∀ {us : List Value} {ds : List D}, PySem.W.EachIs (RsV c H) us ds → ∃ vs, Vals vs us ∧ RpA c H vs ds
  | _, _, .nil => ⟨[], .nil, .nil⟩
  | _, _, .cons ⟨v, r, a⟩ t => by
    obtain ⟨vs, h1, h2⟩ := of_each t
    exact ⟨v :: vs, .cons r h1, .cons a h2⟩
theorem each_reads {pins : List (Addr × Obj)} {σ : L2.St} {H : Hp} {s : Shared} (I : Inv X pins σ H s) {n : Nat} : ∀ {us : List Value} {ds : List D}, (∀ d ∈ ds, shp n d = true) → PySem.W.EachIs (RsV (cn X) H) us ds → PySem.W.EachIs (fun v b => ∃ as, PySem.Reads s.heap v (D.py b) as) us ds
  | _, _, _, .nil => .nil
  | _, _, h, .cons ⟨v, r, a⟩ t => by
    obtain ⟨as, ra⟩ := Dp.reads I _ v _ (a.dp (h _ (by simp))) r
    exact .cons ⟨as, ra⟩ (each_reads I (fun d hd => h d (by simp [hd])) t)
theorem call_sortedD (hu : X.A.units + 70 < cLine) : CallR X (.builtin "sorted") (fun xs H Q => ∃ Hs a vs ds n, xs = [V.ref a] ∧ SqL X.K H a vs ∧ Same Hs H ∧ RpA (cn X) Hs vs ds ∧ n ≤ 60 ∧ SortOk n ds ∧ ∀ p ws, H p = none → RpA (cn X) Hs ws (sortD ds) → Q (.ref p) (upd H p (.lst ws))) := by
  intro pins s σ H xs us Q I r h
  obtain ⟨Hs, a, vs, ds, n, rfl, hq, hs, ra, hn, ok, q⟩ := h
  obtain ⟨u, rfl, ru⟩ := vals1 r
  obtain rfl : u = Value.ref a := ru
  obtain ⟨its, rv, hl, hz⟩ := I.list hq
  have e := each_rs rv ra
  have hlen := ra.length
  refine PySem.W.sorted_data (enc := D.py) (R := RsV (cn X) Hs) hl.isList e (each_reads I ok.shp (each_rs rv (ra.same hs))) ?_ ?_ (by omega) ?_ fun out ho hw => ?_
  · intro d hd d' hd'
    obtain ⟨x, hx, rfl⟩ := List.mem_map.mp hd
    obtain ⟨y, hy, rfl⟩ := List.mem_map.mp hd'
    exact ok.alike x hx y hy
  · rcases ok.kind with k | k
    · left
      intro d hd
      obtain ⟨x, hx, rfl⟩ := List.mem_map.mp hd
      obtain ⟨y, r, rfl⟩ := k x hx
      exact ⟨y.py, pys r, by rw [D.py, pys]⟩
    · right
      intro d hd
      obtain ⟨x, hx, rfl⟩ := List.mem_map.mp hd
      obtain ⟨k1, k2⟩ := k x hx
      refine ⟨py_ne_none (ok.shp x hx) k1, fun ys => ?_⟩
      cases x with
      | tup zs => exact absurd rfl (k2 zs)
      | raw v => have := ok.shp _ hx; simp [Dv.shp] at this
      | _ => rw [D.py]; exact fun z => nomatch z
  · intro b hb
    have := shp_depth (ok.shp b hb)
    omega
  · obtain ⟨ws, h1, h2⟩ := of_each hw
    obtain ⟨en, he⟩ := PyProof.Rows.sortedAll_at s.heap its (List.toArray out)
    have keep : ∀ b ob, s.heap.get? b = some ob → (PyProof.Rows.sortedAll s.heap its (List.toArray out)).get? b = some ob := fun b ob hb => PyProof.Rows.sortedAll_old hb
    refine ⟨.ref (s.heap.objs.size + 1), _, I.laid (t' := s.toks) (o := .lst ws) keep (Nat.le_succ _) ⟨?_, out, en, h1, he⟩, rfl, q _ ws (I.hok.fresh (Nat.le_succ _)) h2⟩
    rw [h2.length]
    rw [List.length_mergeSort]
    omega
theorem cd_sorted (hu : X.A.units + 70 < cLine) : CallD X (.builtin "sorted") (fun ds R => ∃ xs n, ds = [.lst xs] ∧ n ≤ 60 ∧ SortOk n xs ∧ R (.lst (sortD xs))) :=
  ⟨_, call_sortedD hu, fun Hs H vs ds R Q hs ra ⟨xs, n, e, hn, ok, h⟩ k => by
    subst e
    cases ra with
    | cons r ra =>
      cases ra
      cases r with
      | @lst a vs _ z hq rb =>
        exact ⟨Hs, a, vs, xs, n, rfl, hs.seq hq, hs, rb, hn, ok, fun p ws hp rw' => k _ _ _ _ h (Lay.one hs hp) (.lstN (hs.free hp) (by unfold sortD; rw [List.length_mergeSort]; exact z) rw')⟩⟩
end
end Dv

set_option Elab.async false
set_option linter.all false
set_option maxRecDepth 100000
/-! Subscripts, slices, truth, enumerate over data. -/
namespace Dv
open PySem L2

section
variable {X : Cx}
/-! ### subscripts -/
theorem atI_len {α β : Type} {xs : List α} {ys : List β} {i : Int} {v : β} (hl : xs.length = ys.length) (h : atI ys i = some v) : ∃ (j : Nat) (x : α), atI xs i = some x ∧ xs[j]? = some x ∧ ys[j]? = some v := by
  unfold atI at h ⊢
  rw [hl]
  cases e : ixN ys.length i with
  | none => rw [e] at h; cases h
  | some j =>
    rw [e] at h
    obtain ⟨hj, _⟩ := List.getElem?_eq_some_iff.mp h
    have hx : xs[j]? = some xs[j] := List.getElem?_eq_getElem (by omega)
    exact ⟨j, xs[j], by simpa using hx, hx, h⟩
/-- an item of a list, a tuple, a text -/
def ixD (d : D) (i : Int) : Option D := match d with
  | .tup xs => atI xs i
  | .lst xs => atI xs i
  | .str x => (atI x.cps.toList i).map fun k => .str ⟨#[k]⟩
  | _ => none
theorem xd_seq : IxD X (fun d e R => ∃ i v, e = .int i ∧ ixD d i = some v ∧ R v) := by
  refine ⟨_, ix_seq, fun Hs H x y d e R Q hs rx ry ⟨i, v, he, hv, h⟩ k => ?_⟩
  subst he
  cases rx with
  | @tup a vs ds z hq ra =>
    obtain ⟨j, w, h1, h2, h3⟩ := atI_len ra.length hv
    obtain ⟨w', h4, h5⟩ := ra.get h3
    rw [h2] at h4
    cases h4
    exact .inr (.inl ⟨a, vs, i, w, rfl, ry.intE, SqT_same hs hq, h1, k _ Hs H _ h (Lay.refl hs) h5⟩)
  | @lst a vs ds z hq ra =>
    obtain ⟨j, w, h1, h2, h3⟩ := atI_len ra.length hv
    obtain ⟨w', h4, h5⟩ := ra.get h3
    rw [h2] at h4
    cases h4
    exact .inl ⟨a, vs, i, w, rfl, ry.intE, hs.seq hq, h1, k _ Hs H _ h (Lay.refl hs) h5⟩
  | @str x z =>
    have hv' : (atI x.cps.toList i).map (fun k => D.str ⟨#[k]⟩) = some v := hv
    cases e : atI x.cps.toList i with
    | none => rw [e] at hv'; cases hv'
    | some c =>
      rw [e] at hv'
      cases hv'
      exact .inr (.inr ⟨x, i, c, rfl, ry.intE, z, e, k _ Hs H _ h (Lay.refl hs) (.str (by show 1 ≤ sizeLine; decide))⟩)
  | _ => cases hv

/-! ### slices -/
def cutD (xs : List D) (lo hi : Option Int) : List D := (xs.drop (HT.sIx xs.length 0 lo)).take (HT.sIx xs.length xs.length hi - HT.sIx xs.length 0 lo)
theorem RpA.cut {c : Cn} {H : Hp} {vs : List V} {ds : List D} (r : RpA c H vs ds) (lo hi : Option Int) : RpA c H (cutV vs lo hi) (cutD ds lo hi) := by
  unfold cutV cutD
  rw [r.length]
  exact (r.drop _).take _
theorem cutD_length (xs : List D) (lo hi : Option Int) : (cutD xs lo hi).length ≤ xs.length := by
  unfold cutD
  rw [List.length_take, List.length_drop]
  omega
def slD (d : D) (lo hi : Option Int) : Option D := match d with
  | .tup xs => some (.tup (cutD xs lo hi))
  | .lst xs => some (.lst (cutD xs lo hi))
  | .str x => some (.str (cutS x lo hi))
  | _ => none
theorem sd_seq : SlD X (fun d lo hi R => ∃ v, slD d lo hi = some v ∧ R v) := by
  refine ⟨_, sl_list.or (sl_tupA.or sl_str), fun Hs H x lo hi d R Q hs rx ⟨v, hv, h⟩ k => ?_⟩
  cases rx with
  | @tup a vs ds z hq ra =>
    cases hv
    refine .inr (.inl ⟨a, vs, rfl, SqT_same hs hq, fun ⟨e1, e2⟩ => ?_, fun _ p hp => ?_⟩)
    · refine k _ Hs H _ h (Lay.refl hs) ?_
      have : cutD ds lo hi = ds := by
        unfold cutD
        rw [← ra.length, e1, e2, List.drop_zero, Nat.sub_zero, ra.length, List.take_length]
      rw [this]
      exact .tup z hq ra
    · exact k _ _ _ _ h (Lay.one hs hp) (.tupN (hs.free hp) (Nat.le_trans (cutD_length _ _ _) z) (ra.cut lo hi))
  | @lst a vs ds z hq ra =>
    cases hv
    exact .inl ⟨a, vs, rfl, hs.seq hq, fun p hp => k _ _ _ _ h (Lay.one hs hp) (.lstN (hs.free hp) (Nat.le_trans (cutD_length _ _ _) z) (ra.cut lo hi))⟩
  | @str x z =>
    cases hv
    exact .inr (.inr ⟨x, rfl, z, k _ Hs H _ h (Lay.refl hs) (.str (Nat.le_trans (cutS_length _ _ _) z))⟩)
  | _ => cases hv
end

/-! ### [::-1] -/
theorem fm_congr {α β : Type} {f g : α → Option β} : ∀ {l : List α}, (∀ x ∈ l, f x = g x) → l.filterMap f = l.filterMap g
  | [], _ => rfl
  | x :: l, h => by
    rw [List.filterMap_cons, List.filterMap_cons, h x (by simp), fm_congr fun y hy => h y (by simp [hy])]
section
variable {prog : Program} {w : World} {A : Around} {E : Value → Shared → Prop} {s : Shared}
open PyProof.Rows in
theorem getItem_tuple_back {t sl : Addr} {items : Array Value} {u : Tok} {Q : Value → Shared → Prop} (ht : IsTup s.heap t items) (hs : s.heap.IsSliceOf sl .none .none (.int (-1) u))
    (h : Q (.ref s.heap.objs.size) { s with heap := s.heap.push { cls := .type "tuple", data := .seq items.toList.reverse.toArray } }) (hsz : items.size ≤ sizeLine) : wpAny (model prog w) A (getItem (.ref t) (.ref sl)) Q E s := by
  have htake : sizeOk (.seq items.toList.reverse.toArray) := by
    show items.toList.reverse.toArray.size ≤ sizeLine
    rw [List.size_toArray, List.length_reverse, Array.length_toList]
    exact hsz
  obtain ⟨os, hos, hcs, hds⟩ := id hs
  have hTs : s.TypeIs (.ref sl) "slice" := ⟨os, hos, hcs⟩
  unfold getItem
  try with_reducible refine wpAny_holding ?_
  first | refine wpAny_bind (wpAny_pure ?_) | skip
  refine wpAny_bind (wpAny_sequenceKey ht.typeIs (by decide) ?_)
  refine wpAny_bind (wpAny_callSpecial?_slot (name := Str.ofString "__getitem__") ht.typeIs PyProof.Rows.slot_tuple_getitem
    (wpAny_call_entry PyProof.Rows.slot_tuple_getitem ht.typeIs entry_tuple_getitem ?_ (args_tuple_getitem _ _)))
  show wpAny _ _ (Builtin.Tuple.tupleItemsOf (.ref t) >>= _) _ _ s
  refine wpAny_bind (PyProof.Rows.tupleItemsOf_ ht ?_)
  refine wpAny_bind (wpAny_typeOf hTs ?_)
  rw [if_pos (by decide)]
  have hap : ∀ {A' : Around} {Q' : Int × Int × Nat → Shared → Prop}, Q' ((items.size : Int) - 1, -1, items.size) s → wpAny (model prog w) A' (Builtin.Slice.sliceApplied (.ref sl) (pure (items.size : Int))) Q' E s := fun {A' Q'} hq => by
    unfold Builtin.Slice.sliceApplied Builtin.Slice.sliceFields
    refine wpAny_bind (wpAny_bind (wpAny_field hos hds (x := .none) rfl (wpAny_bind (wpAny_field hos hds (x := .none) rfl (wpAny_bind (wpAny_field hos hds (x := .int (-1) u) rfl (wpAny_pure ?_)))))))
    refine wpAny_bind (PyProof.Rows.slicePart_int ?_)
    show wpAny _ _ (if ((-1 : Int) == 0) = true then _ else _) _ _ s
    rw [if_neg (by decide)]
    refine wpAny_bind (PyProof.Rows.slicePart_none (wpAny_bind (PyProof.Rows.slicePart_none (wpAny_bind (wpAny_pure ?_)))))
    show wpAny _ _ (pure ((items.size : Int) - 1, (-1 : Int), Builtin.Slice.slicePlaces ((items.size : Int) - 1) (-1) (-1))) _ _ s
    have e : Builtin.Slice.slicePlaces ((items.size : Int) - 1) (-1) (-1) = items.size := by
      unfold Builtin.Slice.slicePlaces
      rw [if_neg (by decide)]
      split <;> simp <;> omega
    rw [e]
    exact wpAny_pure hq
  refine wpAny_bind (hap ?_)
  have hno : ¬ ((((items.size : Int) - 1) == 0 && (-1 : Int) == 1 && items.size == items.size) = true) := by simp
  show wpAny _ _ (if (((items.size : Int) - 1) == 0 && (-1 : Int) == 1 && items.size == items.size) = true then _ else _) _ _ s
  have hpick : ((List.range items.size).filterMap fun (m : Nat) => items[((items.size : Int) - 1 + (m : Int) * (-1)).toNat]?).toArray = items.toList.reverse.toArray := by
    have e1 : (List.range items.size).filterMap (fun (m : Nat) => items[((items.size : Int) - 1 + (m : Int) * (-1)).toNat]?) = (List.range items.size).filterMap ((fun k => items[k]?) ∘ fun k => items.size - 1 - k) := by
      refine fm_congr fun m hm => ?_
      have := List.mem_range.mp hm
      have e : ((items.size : Int) - 1 + (m : Int) * (-1)).toNat = items.size - 1 - m := by omega
      show items[((items.size : Int) - 1 + (m : Int) * (-1)).toNat]? = items[items.size - 1 - m]?
      rw [e]
    rw [e1, ← List.filterMap_map, PySem.W.krv_range, List.filterMap_reverse, PySem.W.krv_all]
  rw [if_neg hno, hpick]
  first
    | exact wpAny_bind (m := Builtin.Tuple.tupleExact _) (wpAny_newObj_type (wpAny_pure ⟨_, rfl, wpAny_pure h⟩) htake)
    | exact wpAny_bind (m := Builtin.Tuple.tupleExact _) (wpAny_newObj_type (wpAny_bind (wpAny_pure (wpAny_pure ⟨_, rfl, wpAny_pure h⟩))) htake)
    | exact wpAny_bind (wpAny_bind (m := Builtin.Tuple.tupleExact _) (wpAny_newObj_type (wpAny_pure (wpAny_pure ⟨_, rfl, wpAny_pure h⟩)) htake))
    | exact wpAny_bind (wpAny_bind (m := Builtin.Tuple.tupleExact _) (wpAny_newObj_type (wpAny_pure ⟨_, rfl, wpAny_pure h⟩) htake))
end
/-- t[::-1] of a tuple -/
def tRevT (K : PySem.W.Frag) (te : TE) : TE := fun σ H Q => te σ H fun x H1 => ∃ a xs, x = .ref a ∧ SqT K H1 a xs ∧ ∀ p, H1 p = none → Q (.ref p) (upd H1 p (.tup xs.reverse))
open PySem.Spec PyProof.Rows in
theorem pe_revT {X : Cx} {e : Expr} {te : TE} {k : Nat} {p1 p2 p3 pos : Pos} (he : PE X e te) : PE X (.Subscript e (.Slice none none (some (.UnaryOp .USub (.Constant (.int 1) k p1) p2)) p3) pos) (tRevT X.K te) := by
  refine ⟨fun pins s σ H Q I h => ?_⟩
  refine Subscript_ (thn (he.run pins s σ H _ I h) fun v s1 ⟨x, H1, I1, r1, q1⟩ => ?_)
  obtain ⟨a, xs, ex, hx, q⟩ := q1
  subst ex
  cases r1
  have hst : PO X (some (.UnaryOp .USub (.Constant (.int 1) k p1) p2)) (tPart (tUn (rU fun i => .int (-i)) (tC (.int 1)))) := po_some (pe_un un_neg pe_int)
  refine wpAny_Slice (thn (po_none.run pins s1 σ H1 (fun o H2 => o = none ∧ H2 = H1) I1 ⟨rfl, rfl⟩) fun vl s2 ⟨l, H2, I2, pl, el, e2⟩ => ?_)
  subst el e2
  refine thn (po_none.run pins s2 σ H2 (fun o H3 => o = none ∧ H3 = H2) I2 ⟨rfl, rfl⟩) fun vu s3 ⟨u, H3, I3, pu, eu, e3⟩ => ?_
  subst eu e3
  refine thn (hst.run pins s3 σ H3 (fun o H4 => o = some (-1) ∧ H4 = H3) I3 ⟨1, rfl, -1, rfl, rfl, rfl⟩) fun vs s4 ⟨o, H4, I4, ps, eo, e4⟩ => ?_
  subst eo e4
  have I5 : Inv X pins σ H4 { s4 with heap := s4.heap.push { cls := .type "slice", data := .fields #[vl, vu, vs] } } := I4.kept (t' := s4.toks) fun b ob q => Heap.get?_push_of_some _ q
  obtain ⟨its, r, ht, hz⟩ := I5.tuple hx
  have hlen := r.length
  cases pl
  cases pu
  cases ps with
  | int _ tk =>
    show wpAny (model X.prog X.w) X.A (subscriptTail e (.Slice none none (some (.UnaryOp .USub (.Constant (.int 1) k p1) p2)) p3) (.ref a) (.ref s4.heap.objs.size)) (EP X pins σ Q) X.xe { s4 with heap := s4.heap.push { cls := .type "slice", data := .fields #[.none, .none, .int (-1) tk] } }
    refine tail_any (ops := [.ref a, .ref s4.heap.objs.size]) ht.typeIs (PyProof.Rows.slot_tuple_getitem.lookup) ?_ (by with_unfolding_all rfl)
    refine getItem_tuple_back ht (Heap.IsSliceOf.new _ .none .none (.int (-1) tk)) ?_ (by rw [List.size_toArray]; omega)
    refine ⟨.ref _, _, I5.laid (t' := s4.toks) (o := .tup xs.reverse) (fun b ob q => Heap.get?_push_of_some _ q) (Nat.le_refl _) ?_, rfl, q _ (I5.hok.fresh (Nat.le_refl _))⟩
    exact ⟨by rw [List.length_reverse]; exact hz, _, r.reverse, ⟨_, Heap.get?_push_size _ rfl, rfl, 0, by simp⟩⟩
section
variable {W : Wld} {B : Bs W} {X : Cx} {e : Expr} {te : TD W} {pos : Pos}
def dRevT (te : TD W) : TD W := fun ρ s Q => te ρ s fun d s1 => ∃ xs, d = .tup xs ∧ Q (.tup xs.reverse) s1
def dRevL (te : TD W) : TD W := fun ρ s Q => te ρ s fun d s1 => ∃ xs, d = .lst xs ∧ Q (.lst xs.reverse) s1
theorem de_revT {k : Nat} {p1 p2 p3 : Pos} (he : DE W B X e te) : DE W B X (.Subscript e (.Slice none none (some (.UnaryOp .USub (.Constant (.int 1) k p1) p2)) p3) pos) (dRevT te) :=
  ⟨pe_imp (pe_revT he.run) fun σ H Q ⟨Hs, ρ, s, R, S, h1, kk⟩ => ⟨Hs, ρ, s, _, S, h1, fun d s1 Hs1 H1 v hR g rv => by
    obtain ⟨xs, rfl, hq⟩ := hR
    cases rv with
    | @tup a vs _ z hs ra =>
      exact ⟨a, vs, rfl, SqT_same g.sub hs, fun p hp => kk _ s1 _ _ _ hq (g.trans ((Lay.one g.sub hp).go g.rel)) (.tupN (g.sub.free hp) (by rw [List.length_reverse]; exact z) ra.rev)⟩⟩⟩
theorem de_revL {k : Nat} {p1 p2 p3 : Pos} (he : DE W B X e te) : DE W B X (.Subscript e (.Slice none none (some (.UnaryOp .USub (.Constant (.int 1) k p1) p2)) p3) pos) (dRevL te) :=
  ⟨pe_imp (pe_revL he.run) fun σ H Q ⟨Hs, ρ, s, R, S, h1, kk⟩ => ⟨Hs, ρ, s, _, S, h1, fun d s1 Hs1 H1 v hR g rv => by
    obtain ⟨xs, rfl, hq⟩ := hR
    cases rv with
    | @lst a vs _ z hs ra =>
      exact ⟨a, vs, rfl, g.sub.seq hs, fun p hp => kk _ s1 _ _ _ hq (g.trans ((Lay.one g.sub hp).go g.rel)) (.lstN (g.sub.free hp) (by rw [List.length_reverse]; exact z) ra.rev)⟩⟩⟩

/-! ### truth of a datum -/
def truD : D → Option Bool
  | .non => some false
  | .bl b => some b
  | .int i => some (i != 0)
  | .str x => some ((x.length : Int) != 0)
  | .tup xs => some (!xs.isEmpty)
  | .lst xs => some (!xs.isEmpty)
  | _ => none
theorem empty_len {α β : Type} {xs : List α} {ys : List β} (h : xs.length = ys.length) : xs.isEmpty = ys.isEmpty := by
  cases xs <;> cases ys <;> first | rfl | cases h
def dTru (te : TD W) : TDB W := fun ρ s Q => te ρ s fun d s1 => ∃ b, truD d = some b ∧ Q b s1
theorem dt_truth (he : DE W B X e te) (hw : ∀ whole, isTrue e X.env whole = (do let v ← whole; standAt e.pos; holding [v] (truthy v)) := by intro _; rfl) : DT W B X e (dTru te) :=
  ⟨pt_imp (pt_truth he.run hw) fun σ H Q ⟨Hs, ρ, s, R, S, h1, kk⟩ => ⟨Hs, ρ, s, _, S, h1, fun d s1 Hs1 H1 v hR g rv => by
    obtain ⟨b, hb, hq⟩ := hR
    refine ⟨b, ?_, kk b s1 Hs1 H1 hq g⟩
    cases rv with
    | non => cases hb; rfl
    | bl x => cases hb; rfl
    | int i => cases hb; rfl
    | str z => cases hb; exact ⟨z, rfl⟩
    | @tup a vs _ z hs ra => cases hb; exact .inr (.inl ⟨vs, SqT_same g.sub hs, by rw [empty_len ra.length]⟩)
    | @lst a vs _ z hs ra => cases hb; exact .inl ⟨vs, g.sub.seq hs, by rw [empty_len ra.length]⟩
    | _ => cases hb⟩⟩
end
end Dv

set_option Elab.async false
set_option linter.all false
set_option maxRecDepth 100000
/-! enumerate over a list or a tuple. -/
namespace PySem
open AutoSeq1 (wpAny_loadPart')
theorem meets_enumerate_newT (l : Addr) (items : Array Value) (n : Nat) (dct : Option Addr) (sl : Array (Option Value)) :
    Meets (Builtin.«enumerate.__new__» ⟨[.type "enumerate", .ref l], []⟩) (fun _ R s => s.heap.get? l = some { cls := .type "tuple", dict := dct, data := .seq items n, slots := sl } ∧
      R (.ok (.ret (.ref (s.heap.push { cls := .type "tuple_iterator", data := .fields #[.ref l, .int 0 0] }).objs.size)))
        { s with heap := (s.heap.push { cls := .type "tuple_iterator", data := .fields #[.ref l, .int 0 0] }).push { cls := .type "enumerate", data := .fields #[.none, .bool false, .ref s.heap.objs.size, rawInt 0, .none, .none] } }) :=
  .of_wp fun prog w A R s h => by
    obtain ⟨hp, g, d, tk, os⟩ := s; obtain ⟨hl, h⟩ := h
    have hsub := sub_enumerate
    have hL : Heap.IsTuple (Shared.heap ⟨hp, g, d, tk, os⟩) l items := ⟨_, hl, rfl, n, rfl⟩
    wp_walk using wpAny_loadPart' hl
    refine wpAny_stack_any fun st => wpAny_pure ?_
    split
    · rename_i c _ _ _ _ _
      cases (c == Value.type "enumerate")
      · wp_walk using wpAny_loadPart' hl, wpAny_pyIter_tuple hL
        exact ⟨_, rfl, h⟩
      · wp_walk using wpAny_loadPart' hl, wpAny_pyIter_tuple hL
        exact ⟨_, rfl, h⟩
    · wp_walk using wpAny_loadPart' hl, wpAny_pyIter_tuple hL
      exact ⟨_, rfl, h⟩
section
variable {prog : Program} {w : World} {A : Around} {E : Value → Shared → Prop} {s : Shared}
theorem call_enumerate_tuple {l : Addr} {items : Array Value} {Q : Value → Shared → Prop} (hL : s.heap.IsTuple l items)
    (h : ∀ h', IsEnum h' (s.heap.objs.size + 1) s.heap.objs.size 0 .none → h'.IsTupleIter s.heap.objs.size l 0 → h'.objs.size = s.heap.objs.size + 2 →
      (∀ b o, s.heap.get? b = some o → h'.get? b = some o) → Q (.ref (s.heap.objs.size + 1)) { s with heap := h' }) :
    wpAny (model prog w) A (call (.type "enumerate") [.ref l]) Q E s := by
  obtain ⟨⟨c, dct, dt, sl⟩, hl, hc, n, hd⟩ := hL
  replace hc : c = .type "tuple" := hc
  replace hd : dt = .seq items n := hd
  subst hc hd
  refine callType_new F.called_enumerate (by decide) (F.typeCall_enumerate_1 _) (F.newCall_enumerate_1 _) (fun obj => F.args_object_init_2 obj _) F.entry_enumerate_new
    (meets_enumerate_newT l items n dct sl) ⟨hl, ?_⟩
  have hz : (s.heap.push { cls := .type "tuple_iterator", data := .fields #[.ref l, .int 0 0] }).objs.size = s.heap.objs.size + 1 := Heap.size_push ..
  show _ ∧ _
  rw [hz]
  have he : IsEnum ((s.heap.push { cls := .type "tuple_iterator", data := .fields #[.ref l, .int 0 0] }).push
      { cls := .type "enumerate", data := .fields #[.none, .bool false, .ref s.heap.objs.size, rawInt 0, .none, .none] }) (s.heap.objs.size + 1) s.heap.objs.size 0 .none := by
    have := Heap.get?_push_size (s.heap.push { cls := .type "tuple_iterator", data := .fields #[.ref l, .int 0 0] })
      (o := { cls := .type "enumerate", data := .fields #[.none, .bool false, .ref s.heap.objs.size, rawInt 0, .none, .none] }) rfl
    rw [hz] at this; exact this
  refine ⟨⟨_, he, rfl⟩, h _ he ⟨_, Heap.get?_push_of_some _ (Heap.get?_push_size _ rfl), rfl, rfl⟩ (by rw [Heap.size_push, hz]) fun b o x => Heap.get?_push_of_some _ (Heap.get?_push_of_some _ x)⟩
end
end PySem

namespace Dv
open PySem L2
/-- a tuple, each item in a new pair -/
def IteT (K : PySem.W.Frag) (a : Addr) : It :=
  ⟨fun i H => ∃ (xs : List V) (x : V), SqT K H a xs ∧ xs[i]? = some x, fun i H v H' => ∃ T x, v = .ref T ∧ H T = none ∧ H' = upd H T (.tup [.int (i : Nat), x]) ∧ ∀ xs, SqT K H a xs → xs[i]? = some x, fun i H => ∃ xs : List V, SqT K H a xs ∧ xs.length = i⟩
open PySem.Spec PyProof.Rows in
theorem turn_enumT {P : Program} {w : World} {K : PySem.W.Frag} {elts : List Expr} {kk : Nat} {tpos : Pos} (a e it : Addr) :
    Turn P w K (.Tuple elts kk tpos) (IteT K a) [e, it] e (fun i h => (∃ old, IsEnum h e it ((i : Nat) : Int) old) ∧ h.IsTupleIter it a i ∧ e ≠ it) where
  mem := by simp
  obj := fun i h st b hb => by
    obtain ⟨⟨old, he⟩, ⟨o, ho, hc, hd⟩, _⟩ := st
    have e' : b = e ∨ b = it := by simpa using hb
    rcases e' with z | z
    · rw [z]; exact ⟨_, he, fun v q => nomatch q⟩
    · rw [z]; exact ⟨o, ho, fun v q => by rw [hd] at q; cases q⟩
  keep := fun i h h' st k => let ⟨⟨old, he⟩, hi, hne⟩ := st; ⟨⟨old, k e (by simp) _ he⟩, hi.at fun o q => k it (by simp) o q, hne⟩
  item := by
    intro X hP hw hK hc i pins s σ H E I hf st hg
    subst hP hw hK
    obtain ⟨⟨old, he⟩, hit, hne⟩ := st
    obtain ⟨xs, x, hq, hx⟩ := hg
    obtain ⟨its, rv, p, hz⟩ := I.tuple hq
    obtain ⟨u, hu, ru⟩ := rv.get hx
    have hel : e < s.heap.objs.size := Heap.lt_size he
    have hil : it < s.heap.objs.size := by obtain ⟨_, q, _⟩ := hit; exact Heap.lt_size q
    have hhd : X.A.in1.handled = none := I.ok.hd hc
    have hat : a ≠ it := fun z => by
      obtain ⟨o, ho, hcl, _⟩ := p
      obtain ⟨o2, ho2, hcl2, _⟩ := hit
      rw [z, ho2] at ho
      cases ho
      rw [hcl2] at hcl
      exact absurd (Value.type.inj hcl) (by decide)
    have hae : a ≠ e := fun z => by
      obtain ⟨o, ho, hcl, _⟩ := p
      have he' : s.heap.get? e = some _ := he
      rw [z, he'] at ho
      cases ho
      exact absurd (Value.type.inj hcl) (by decide)
    have hlt : i < its.toArray.size := by
      have := (List.getElem?_eq_some_iff.mp hu).1
      simpa using this
    refine wpAny_pyNext_enum_itemC (Draws.tuple hhd it a hat its.toArray) he ⟨hit, p⟩ hlt hne (by simp [hne, Ne.symm hae]) fun x' h' tk hP ho hst hT hsz hk => ?_
    have ex : x' = u := by
      have : its.toArray[i]? = some x' := hP
      rw [List.getElem?_toArray, hu] at this
      exact (Option.some.inj this).symm
    subst ex
    refine ⟨_, rfl, wpAny_letOwnedTupleGo_enum (s := { s with heap := h', toks := tk + 1 }) ho fun h'' he' sb => ?_⟩
    have hT2 : h''.get? s.heap.objs.size = some { cls := .type "tuple", data := .seq #[.int i tk, x'] } := (sb.2 _ (Nat.ne_of_gt hel)).trans hT
    have new : ObjOk X.prog X.w (upd H s.heap.objs.size (.tup [.int (i : Nat), x])) h'' s.heap.objs.size (.tup [.int (i : Nat), x]) :=
      ⟨by show 2 ≤ sizeLine; decide, [.int i tk, x'], .cons ⟨_, rfl⟩ (.cons ru .nil), ⟨_, hT2, rfl, _, rfl⟩⟩
    have I1 : Inv X pins σ (upd H s.heap.objs.size (.tup [.int (i : Nat), x])) { s with heap := h'', toks := tk + 1 } :=
      I.turnedNew (ch := [e, it]) (fun b ob hb q => (sb.2 b (fun z => hb (by simp [z]))).trans (hk b ob (fun z => hb (by simp [z])) (fun z => hb (by simp [z])) q)) hf (Nat.le_refl _) new
    refine ⟨.ref s.heap.objs.size, _, I1, rfl, ⟨_, x, rfl, I.hok.fresh (Nat.le_refl _), rfl, fun ys hy => by rw [I.tuple_inj hy hq]; exact hx⟩, ⟨⟨x', ?_⟩, hst.1.at fun o q => (sb.2 it (Ne.symm hne)).trans q, hne⟩, fun b hb => ?_⟩
    · have e1 : ((i + 1 : Nat) : Int) = (i : Int) + 1 := by omega
      rw [e1]; exact he'
    · have hb' : b < s.heap.objs.size := by
        have e' : b = e ∨ b = it := by simpa using hb
        rcases e' with z | z
        · rw [z]; exact hel
        · rw [z]; exact hil
      rw [upd_ne (Nat.ne_of_lt hb')]
      exact (hf b hb).1
  done := by
    intro X hP hw hK hc i pins s σ H E I hf st hg
    subst hP hw hK
    obtain ⟨⟨old, he⟩, hit, hne⟩ := st
    obtain ⟨xs, hq, hx⟩ := hg
    obtain ⟨its, rv, p, hz⟩ := I.tuple hq
    obtain ⟨f0, f1, f2, f3, f4, f5⟩ := hf it (by simp)
    have hl := rv.length
    have hhd : X.A.in1.handled = none := I.ok.hd hc
    have hat : a ≠ it := fun z => by
      obtain ⟨o, ho, hcl, _⟩ := p
      obtain ⟨o2, ho2, hcl2, _⟩ := hit
      rw [z, ho2] at ho
      cases ho
      rw [hcl2] at hcl
      exact absurd (Value.type.inj hcl) (by decide)
    subst hx
    have e0 : xs.length = its.toArray.size := by simp [hl]
    rw [e0] at hit
    exact wpAny_pyNext_enum_endD (Draws.tuple hhd it a hat its.toArray) he ⟨hit, p⟩ fun h' eb => ⟨rfl, I.turned (t' := s.toks) (fun b o hb q => eb b o hb q) f0 f1 f3 f4 f5⟩
  self := fun A i s Q E st h => let ⟨⟨_, he⟩, _⟩ := st; wpAny_pyIter_enum he h
/-- the pairs of enumerate -/
def enumD (xs : List D) : List D := xs.zipIdx.map fun p => .tup [.int (p.2 : Nat), p.1]
theorem enumD_len (xs : List D) : (enumD xs).length = xs.length := by simp [enumD]
theorem enumD_at {xs : List D} {i : Nat} {d : D} (h : (enumD xs)[i]? = some d) : ∃ x, xs[i]? = some x ∧ d = .tup [.int (i : Nat), x] := by
  unfold enumD at h
  rw [List.getElem?_map, List.getElem?_zipIdx] at h
  cases e : xs[i]? with
  | none => rw [e] at h; cases h
  | some x =>
    rw [e] at h
    cases h
    exact ⟨x, rfl, by simp⟩
theorem pair_lay {c : Cn} {Hs H : Hp} {T : Addr} {i : Nat} {v : V} {x : D} (hs : Same Hs H) (hT : H T = none) (r : Rp c Hs v x) : ∃ Hs', Lay Hs H Hs' (upd H T (.tup [.int (i : Nat), v])) ∧ Rp c Hs' (.ref T) (.tup [.int (i : Nat), x]) :=
  ⟨_, Lay.one hs hT, .tupN (hs.free hT) (by show 2 ≤ sizeLine; decide) (.cons (.int _) (.one r))⟩
theorem WalkD.enumL {c : Cn} {Hs0 : Hp} {a : Addr} {vs : List V} {xs : List D} (h : SqL c.K Hs0 a vs) (r : RpA c Hs0 vs xs) : WalkD c Hs0 (Ite c.K a) (enumD xs) where
  go := fun i Hs H s1 s2 hi => by
    rw [enumD_len] at hi
    obtain ⟨v, hv, _⟩ := r.get (List.getElem?_eq_getElem hi)
    exact ⟨vs, v, s2.seq (s1.seq h), hv⟩
  stop := fun Hs H s1 s2 => ⟨vs, s2.seq (s1.seq h), by rw [r.length, enumD_len]; exact Nat.le_refl _⟩
  yld := fun i d Hs H x H' s1 s2 hd ⟨T, y, e1, e2, e3, hy⟩ => by
    subst e1 e3
    obtain ⟨z, hz, rfl⟩ := enumD_at hd
    obtain ⟨v, hv, rv⟩ := r.get hz
    have q := hy vs (s2.seq (s1.seq h))
    rw [hv] at q
    cases q
    exact pair_lay s2 e2 (rv.same s1)
theorem WalkD.enumT {c : Cn} {Hs0 : Hp} {a : Addr} {vs : List V} {xs : List D} (h : SqT c.K Hs0 a vs) (r : RpA c Hs0 vs xs) : WalkD c Hs0 (IteT c.K a) (enumD xs) where
  go := fun i Hs H s1 s2 hi => by
    rw [enumD_len] at hi
    obtain ⟨v, hv, _⟩ := r.get (List.getElem?_eq_getElem hi)
    exact ⟨vs, v, SqT_same s2 (SqT_same s1 h), hv⟩
  stop := fun Hs H s1 s2 => ⟨vs, SqT_same s2 (SqT_same s1 h), by rw [r.length, enumD_len]⟩
  yld := fun i d Hs H x H' s1 s2 hd ⟨T, y, e1, e2, e3, hy⟩ => by
    subst e1 e3
    obtain ⟨z, hz, rfl⟩ := enumD_at hd
    obtain ⟨v, hv, rv⟩ := r.get hz
    have q := hy vs (SqT_same s2 (SqT_same s1 h))
    rw [hv] at q
    cases q
    exact pair_lay s2 e2 (rv.same s1)
def dEnum {W : Wld} (t : TDA W) : TDI W := fun ρ s Q => t ρ s fun ds s1 => ∃ d xs, ds = [d] ∧ (d = .tup xs ∨ d = .lst xs) ∧ (xs.length ≤ sizeLine → Q (enumD xs) s1)
open PySem.Spec PyProof.Rows in
theorem di_enum {W : Wld} {B : Bs W} {X : Cx} {e : Expr} {ta : TDA W} {p pos tpos : Pos} {elts : List Expr} {kk : Nat} (hg : Gl X "enumerate") (hm : X.mg "enumerate" = none) (ha : DA W B X [e] ta) (hs : starEach [e] X.env = [(false, eval e X.env)] := by rfl) :
    DI W B X (.Tuple elts kk tpos) (.Call (.Name "enumerate" p) [e] [] pos) (dEnum ta) := by
  refine ⟨⟨fun pins s σ H R I hw => ?_⟩⟩
  obtain ⟨Hs, ρ, st, R', S, h1, k⟩ := hw
  refine Call_ (ld_blt I hg hm boot_enumerate (PyProof.Rows.callWith_type1 (thn (ha.run.run pos pins s σ H (fun vs H' => ∃ d s' Hs' xs v, vs = [v] ∧ Go W st Hs H s' Hs' H' ∧ Rp (cn X) Hs' v d ∧ (d = .tup xs ∨ d = .lst xs) ∧ (xs.length ≤ sizeLine → R' (enumD xs) s')) I ⟨Hs, ρ, st, _, S, h1, fun ds s' Hs' H' vs hd g r => by
    obtain ⟨d, xs, rfl, e1, e2⟩ := hd
    cases r with
    | cons r r2 =>
      cases r2
      exact ⟨d, s', Hs', xs, _, rfl, g, r, e1, e2⟩⟩) fun us s1 ⟨vs, H1, I1, rv, d, s', Hs', xs, v, ev, g, r, e1, e2⟩ => ?_) hs rfl))
  subst ev
  obtain ⟨u, rfl, ru⟩ := vals1 rv
  have fin : ∀ (h' : Heap) (J : It) (a : Addr) (tn : Nat → Heap → Prop), (∀ b o, s1.heap.get? b = some o → h'.get? b = some o) → Turn X.prog X.w X.K (.Tuple elts kk tpos) J [s1.heap.objs.size + 1, s1.heap.objs.size] (s1.heap.objs.size + 1) tn → tn 0 h' → R J H1 →
      PIE X pins σ (.Tuple elts kk tpos) R (.ref (s1.heap.objs.size + 1)) { s1 with heap := h' } := fun h' J a tn hk T h0 q => by
    have I2 : Inv X pins σ H1 { s1 with heap := h' } := I1.kept (t' := s1.toks) hk
    refine ⟨s1.heap.objs.size + 1, [s1.heap.objs.size + 1, s1.heap.objs.size], _, J, H1, rfl, I2, T, h0, fun b hb => ?_, q⟩
    have e' : b = s1.heap.objs.size + 1 ∨ b = s1.heap.objs.size := by simpa using hb
    have hle : s1.heap.objs.size ≤ b := by
      rcases e' with z | z
      · rw [z]; exact Nat.le_add_right _ _
      · rw [z]; exact Nat.le_refl _
    exact I1.fpOk hle (I1.hok.fresh hle)
  rcases e1 with rfl | rfl
  · cases r with
    | @tup a vs _ z hq ra =>
      cases ru
      obtain ⟨its, rv', p', hz⟩ := I1.tuple (SqT_same g.sub hq)
      refine call_enumerate_tuple (show s1.heap.IsTuple a its.toArray from p') fun h' he hit hsz hk => wpAny_pyIter_enum he ?_
      exact fin h' _ a _ hk (turn_enumT a (s1.heap.objs.size + 1) s1.heap.objs.size) ⟨⟨.none, he⟩, hit, Nat.succ_ne_self _⟩ (k _ s' Hs' H1 _ (e2 z) g (.enumT hq ra))
  · cases r with
    | @lst a vs _ z hq ra =>
      cases ru
      obtain ⟨its, rv', p', hz⟩ := I1.list (g.sub.seq hq)
      refine call_enumerate_list p'.isList fun h' he hit hsz hk => wpAny_pyIter_enum he ?_
      exact fin h' _ a _ hk (turn_enum a (s1.heap.objs.size + 1) s1.heap.objs.size) ⟨⟨.none, he⟩, hit, Nat.succ_ne_self _⟩ (k _ s' Hs' H1 _ (e2 z) g (.enumL hq ra))
end Dv

set_option Elab.async false
set_option linter.all false
set_option maxRecDepth 100000
/-! Dicts over data. -/
namespace Dv
open PySem L2

/-! ### keys -/
mutual
theorem Rp.nest {X : Cx} {pins : List (Addr × Obj)} {σ : L2.St} {H : Hp} {s : Shared} (I : Inv X pins σ H s) : ∀ {v : V} {d : D} {n : NestedKey} {u : Value}, Rp (cn X) H v d → nk d = some n → RelV v u → NestedIs s.heap n u
  | _, _, _, _, .non, e, r => by
    cases e
    cases r
    exact .none
  | _, _, _, _, .bl b, e, r => by
    cases e
    cases r
    exact .bool rfl
  | _, _, _, _, .int i, e, r => by
    cases e
    obtain ⟨t, rfl⟩ := r
    exact .int i t
  | _, _, _, _, .str z, e, r => by
    cases e
    obtain ⟨t, rfl⟩ := r
    exact .text _ t
  | _, _, _, _, .tup z hq ra, e, r => by
    rw [nk] at e
    cases h : nk.nks _ with
    | none => rw [h] at e; cases e
    | some ks =>
      rw [h] at e
      cases e
      cases r
      obtain ⟨its, rv, ⟨o, h1, h2, m, h3⟩, _⟩ := I.tuple hq
      exact .tup h1 h2 h3 (by simpa using RpA.nest I ra h rv)
  | _, _, _, _, .lst _ _ _, e, _ => by cases e
  | _, _, _, _, .dic _ _ _ _, e, _ => by cases e
  | _, _, _, _, .raw _, e, _ => by cases e
theorem RpA.nest {X : Cx} {pins : List (Addr × Obj)} {σ : L2.St} {H : Hp} {s : Shared} (I : Inv X pins σ H s) : ∀ {vs : List V} {ds : List D} {ns : List NestedKey} {us : List Value}, RpA (cn X) H vs ds → nk.nks ds = some ns → Vals vs us → NestedAll s.heap ns us
  | _, _, _, _, .nil, e, r => by
    cases e
    cases r
    exact .nil
  | _, _, _, _, .cons a t, e, r => by
    rw [nk.nks] at e
    split at e
    · rename_i k ks h1 h2
      cases e
      cases r with
      | cons r1 r2 => exact .cons (Rp.nest I a h1 r1) (RpA.nest I t h2 r2)
    · cases e
end
mutual
theorem nk_depth : ∀ {m : Nat} {d : D} {n : NestedKey}, shp m d = true → nk d = some n → n.depth ≤ m
  | m, .non, _, _, e => by
    cases e
    simp [NestedKey.depth]
  | m, .bl _, _, _, e => by
    cases e
    simp [NestedKey.depth]
  | m, .int _, _, _, e => by
    cases e
    simp [NestedKey.depth]
  | m, .str _, _, _, e => by
    cases e
    simp [NestedKey.depth]
  | 0, .tup _, _, h, _ => by simp [shp] at h
  | m + 1, .tup xs, _, h, e => by
    rw [nk] at e
    cases q : nk.nks xs with
    | none => rw [q] at e; cases e
    | some ks =>
      rw [q] at e
      cases e
      rw [shp, List.all_eq_true] at h
      rw [NestedKey.depth]
      have := nks_depth h q
      omega
  | m, .lst _, _, _, e => by cases e
  | m, .dic _, _, _, e => by cases e
  | m, .raw _, _, _, e => by cases e
theorem nks_depth : ∀ {m : Nat} {ds : List D} {ns : List NestedKey}, (∀ x ∈ ds, shp m x = true) → nk.nks ds = some ns → NestedKey.depthAll ns ≤ m
  | m, [], _, _, e => by
    cases e
    simp [NestedKey.depthAll]
  | m, d :: ds, _, h, e => by
    rw [nk.nks] at e
    split at e
    · rename_i k ks h1 h2
      cases e
      rw [NestedKey.depthAll]
      have a := nk_depth (h d (by simp)) h1
      have b := nks_depth (fun x hx => h x (by simp [hx])) h2
      omega
    · cases e
end
/-- all keys are tuples -/
def tupK (kvs : List (D × D)) : Prop := ∀ p ∈ kvs, shp 8 p.1 = true ∧ ∃ xs, p.1 = .tup xs
inductive XR (c : Cn) (H : Hp) : List (NestedKey × Addr × Value) → List (D × D) → Prop
  | nil : XR c H [] []
  | cons {n : NestedKey} {a : Addr} {u : Value} {v : V} {k d : D} {xs : List (NestedKey × Addr × Value)} {kvs : List (D × D)} : Rp c H (.ref a) k → nk k = some n → n.depth ≤ 8 → RelV v u → Rp c H v d → XR c H xs kvs → XR c H ((n, a, u) :: xs) ((k, d) :: kvs)
theorem RpE.xr {c : Cn} {H : Hp} : ∀ {es : List DictEntry} {kvs : List (D × D)}, RpE c H es kvs → tupK kvs → ∃ xs, es = xs.map (entryOfKey (nestedKind c.P c.w)) ∧ XR c H xs kvs
  | _, _, .nil, _ => ⟨[], rfl, .nil⟩
  | _, _, @RpE.cons _ _ e kv v n es k d kvs h1 h2 h3 h4 h5 h6 t, tk => by
    obtain ⟨hs, xs, hx⟩ := tk (k, d) (by simp)
    have hx' : k = .tup xs := hx
    obtain ⟨ys, e2, h⟩ := RpE.xr t fun p hp => tk p (by simp [hp])
    obtain ⟨a, ha⟩ : ∃ a, kv = V.ref a := by
      rw [hx'] at h2
      cases h2
      exact ⟨_, rfl⟩
    subst ha
    have hk : e.key = .ref a := h1
    refine ⟨(n, a, e.val) :: ys, ?_, .cons h2 h3 (nk_depth hs h3) h5 h6 h⟩
    rw [List.map_cons, ← e2]
    congr 1
    show e = ⟨n.hash c.w, .ref a, e.val⟩
    rw [← h4, ← hk]
theorem XR.rpe {c : Cn} {H : Hp} : ∀ {xs : List (NestedKey × Addr × Value)} {kvs : List (D × D)}, XR c H xs kvs → RpE c H (xs.map (entryOfKey (nestedKind c.P c.w))) kvs
  | _, _, .nil => .nil
  | _, _, .cons h1 h2 h3 h4 h5 t => .cons (e := entryOfKey (nestedKind c.P c.w) (_, _, _)) (kv := .ref _) (show RelV (V.ref _) (Value.ref _) from rfl) h1 h2 rfl h4 h5 (XR.rpe t)
theorem XR.keys {c : Cn} {H : Hp} : ∀ {xs : List (NestedKey × Addr × Value)} {kvs : List (D × D)}, XR c H xs kvs → kvs.map (fun p => nk p.1) = (xs.map (·.1)).map some
  | _, _, .nil => rfl
  | _, _, .cons h1 h2 h3 h4 h5 t => by
    rw [List.map_cons, List.map_cons, List.map_cons, XR.keys t]
    show nk _ :: _ = _
    rw [h2]
theorem XR.length {c : Cn} {H : Hp} : ∀ {xs : List (NestedKey × Addr × Value)} {kvs : List (D × D)}, XR c H xs kvs → xs.length = kvs.length
  | _, _, .nil => rfl
  | _, _, .cons _ _ _ _ _ t => by rw [List.length_cons, List.length_cons, XR.length t]
/-- what stands under a key -/
def dfind (kvs : List (D × D)) (n : NestedKey) : Option D := (kvs.find? fun p => decide (nk p.1 = some n)).map (·.2)
def dput (kvs : List (D × D)) (k : D) (n : NestedKey) (d : D) : List (D × D) := if (dfind kvs n).isSome then kvs.map (fun p => if nk p.1 = some n then (p.1, d) else p) else kvs ++ [(k, d)]
theorem XR.find {c : Cn} {H : Hp} {n : NestedKey} : ∀ {xs : List (NestedKey × Addr × Value)} {kvs : List (D × D)}, XR c H xs kvs →
    (dfind kvs n = none ∧ atKey xs n = none) ∨ ∃ d p v, dfind kvs n = some d ∧ atKey xs n = some p ∧ RelV v p.2 ∧ Rp c H v d
  | _, _, .nil => .inl ⟨rfl, rfl⟩
  | _, _, @XR.cons _ _ m a u v k d xs kvs h1 h2 h3 h4 h5 t => by
    by_cases e : m = n
    · subst e
      refine .inr ⟨d, (a, u), v, ?_, ?_, h4, h5⟩
      · unfold dfind
        rw [List.find?_cons_of_pos (by simpa using h2)]
        rfl
      · unfold atKey
        rw [List.find?_cons_of_pos (by simp)]
        rfl
    · have e1 : dfind ((k, d) :: kvs) n = dfind kvs n := by
        unfold dfind
        rw [List.find?_cons_of_neg (by simp only [decide_eq_true_eq]; rw [h2]; exact fun z => e (Option.some.inj z))]
      have e2 : atKey ((m, a, u) :: xs) n = atKey xs n := by
        unfold atKey
        rw [List.find?_cons_of_neg (by simpa using e)]
      rw [e1, e2]
      exact XR.find t
theorem XR.append {c : Cn} {H : Hp} : ∀ {xs ys : List (NestedKey × Addr × Value)} {kvs lvs : List (D × D)}, XR c H xs kvs → XR c H ys lvs → XR c H (xs ++ ys) (kvs ++ lvs)
  | _, _, _, _, .nil, s => s
  | _, _, _, _, .cons h1 h2 h3 h4 h5 t, s => .cons h1 h2 h3 h4 h5 (XR.append t s)
theorem XR.put {c : Cn} {H : Hp} {n : NestedKey} {a : Addr} {u : Value} {v : V} {k d : D} {xs : List (NestedKey × Addr × Value)} {kvs : List (D × D)} (x : XR c H xs kvs) (hk : Rp c H (.ref a) k) (hn : nk k = some n) (hz : n.depth ≤ 8) (r : RelV v u) (hd : Rp c H v d) :
    XR c H (storedH xs n a u) (dput kvs k n d) := by
  have mp : ∀ {xs : List (NestedKey × Addr × Value)} {kvs : List (D × D)}, XR c H xs kvs → XR c H (xs.map (putAt n u)) (kvs.map fun p => if nk p.1 = some n then (p.1, d) else p) := by
    intro xs kvs x
    induction x with
    | nil => exact .nil
    | @cons m b w y k' d' xs kvs h1 h2 h3 h4 h5 t ih =>
      rw [List.map_cons, List.map_cons]
      by_cases e : m = n
      · subst e
        rw [if_pos h2, putAt, if_pos rfl]
        exact .cons h1 h2 h3 r hd ih
      · rw [if_neg (by rw [h2]; exact fun z => e (Option.some.inj z)), putAt, if_neg e]
        exact .cons h1 h2 h3 h4 h5 ih
  rcases x.find (n := n) with ⟨h1, h2⟩ | ⟨d', p, v', h1, h2, _, _⟩
  · unfold storedH dput
    rw [h1, h2, if_neg (by simp), if_neg (by simp)]
    exact x.append (.cons hk hn hz r hd .nil)
  · unfold storedH dput
    rw [h1, h2]
    simp only [Option.isSome_some, if_true]
    exact mp x

section
variable {X : Cx} {pins : List (Addr × Obj)} {σ : L2.St} {H : Hp} {s : Shared}
theorem Inv.dictAt {Hs : Hp} {d : Addr} {o : Obj} {es : List DictEntry} {kvs : List (D × D)} (I : Inv X pins σ H s) (hs : Same Hs H) (hd : H d = some (.ext (DAt d o))) (fx : DFx d o es) (re : RpE (cn X) Hs es kvs) (nd : (kvs.map fun p => nk p.1).Nodup) (tk : tupK kvs) :
    ∃ xs, s.heap.DictOfH (nestedKind X.prog X.w) d xs ∧ es = xs.map (entryOfKey (nestedKind X.prog X.w)) ∧ XR (cn X) Hs xs kvs := by
  obtain ⟨xs, e, x⟩ := re.xr tk
  obtain ⟨ep, hdt⟩ := fx.dt
  refine ⟨xs, ⟨o, es.toArray, ep, Inv.dat I hd, fx.ex, hdt, by simpa using e, ?_, ?_⟩, e, x⟩
  · clear nd tk re e
    induction x with
    | nil => simp
    | cons h1 h2 h3 h4 h5 t ih =>
      intro y hy
      rcases List.mem_cons.mp hy with rfl | hy
      · exact ⟨Rp.nest I (h1.same hs) h2 rfl, h3⟩
      · exact ih y hy
  · have := x.keys
    rw [this] at nd
    exact List.Pairwise.of_map some (fun a b h e => h (by rw [e])) nd

theorem DictOfH.parts {knd : HeapKind X.prog X.w NestedKey} {h : Heap} {d : Addr} {xs : List (NestedKey × Addr × Value)} (m : h.DictOfH knd d xs) : ∃ o, h.get? d = some o ∧ o.ExactDict ∧ ∃ ep, o.data = .dict (xs.map (entryOfKey knd)).toArray ep := by
  obtain ⟨o, es, ep, ho, hx, hd, he, _, _⟩ := m
  exact ⟨o, ho, hx, ep, by rw [hd, ← he]⟩
theorem ext_ok {h : Heap} {d : Addr} {o : Obj} (e : h.get? d = some o) : ObjOk X.prog X.w H h d (.ext (DAt d o)) := ⟨e, ⟨o, e⟩, fun _ _ a b => b o a⟩
theorem mut_ext {φ : Heap → Prop} : Mut (some (.ext φ)) := trivial

/-! ### d.get(k, x), d[k] -/
abbrev kroom (X : Cx) : Prop := X.A.units + 66 < cLine
theorem kr {A : Around} {P : Program} {w : World} (h : A.units + 66 < cLine) : (nestedKind P w).room A.in1 := by
  show A.units + 1 + 8 < cLine
  omega
theorem dv_get {Hs : Hp} {d : Addr} {o : Obj} {es : List DictEntry} {kvs : List (D × D)} {kv xv : V} {k x : D} {n : NestedKey} {ku xu : Value} {Q : Value → Shared → Prop} {E : Value → Shared → Prop} (hu : kroom X) (I : Inv X pins σ H s) (hs : Same Hs H) (hd : H d = some (.ext (DAt d o))) (fx : DFx d o es) (re : RpE (cn X) Hs es kvs) (nd : (kvs.map fun p => nk p.1).Nodup) (tk : tupK kvs)
    (rk : Rp (cn X) Hs kv k) (hk : shp 8 k = true) (hkt : ∃ xs, k = .tup xs) (hn : nk k = some n) (ru : RelV kv ku) (rx : Rp (cn X) Hs xv x) (rux : RelV xv xu) (h : ∀ v u tk, RelV v u → Rp (cn X) Hs v ((dfind kvs n).getD x) → Q u { s with toks := tk }) :
    wpAny (model X.prog X.w) X.A (call (.builtin "dict.get") [.ref d, ku, xu]) Q E s := by
  obtain ⟨xs, hm, _, xr⟩ := Inv.dictAt I hs hd fx re nd tk
  obtain ⟨zs, rfl⟩ := hkt
  cases rk with
  | @tup a vs _ z hq ra =>
    obtain rfl : ku = Value.ref a := ru
    have hkey : (nestedKind X.prog X.w).is s.heap n a := ⟨Rp.nest I (Rp.tup z (SqT_same hs hq) (ra.same hs)) hn rfl, nk_depth hk hn⟩
    refine getOr_keyed (kr hu) hkey fx.ns ⟨xs, hm, rfl⟩ ?_
    rw [valueAt_pairsH]
    rcases xr.find (n := n) with ⟨h1, h2⟩ | ⟨d', p, v, h1, h2, h3, h4⟩
    · rw [h2]
      rw [h1] at h
      exact h xv xu _ rux rx
    · rw [h2]
      rw [h1] at h
      exact h v p.2 _ h3 h4
theorem dv_getItem {Hs : Hp} {d : Addr} {o : Obj} {es : List DictEntry} {kvs : List (D × D)} {kv : V} {k x : D} {n : NestedKey} {ku : Value} {Q : Value → Shared → Prop} {E : Value → Shared → Prop} (hu : kroom X) (I : Inv X pins σ H s) (hs : Same Hs H) (hd : H d = some (.ext (DAt d o))) (fx : DFx d o es) (re : RpE (cn X) Hs es kvs) (nd : (kvs.map fun p => nk p.1).Nodup) (tk : tupK kvs)
    (rk : Rp (cn X) Hs kv k) (hk : shp 8 k = true) (hkt : ∃ xs, k = .tup xs) (hn : nk k = some n) (ru : RelV kv ku) (hf : dfind kvs n = some x) (h : ∀ v u tk, RelV v u → Rp (cn X) Hs v x → Q u { s with toks := tk }) :
    wpAny (model X.prog X.w) X.A (getItem (.ref d) ku) Q E s := by
  obtain ⟨xs, hm, _, xr⟩ := Inv.dictAt I hs hd fx re nd tk
  obtain ⟨zs, rfl⟩ := hkt
  cases rk with
  | @tup a vs _ z hq ra =>
    obtain rfl : ku = Value.ref a := ru
    have hkey : (nestedKind X.prog X.w).is s.heap n a := ⟨Rp.nest I (Rp.tup z (SqT_same hs hq) (ra.same hs)) hn rfl, nk_depth hk hn⟩
    rcases xr.find (n := n) with ⟨h1, h2⟩ | ⟨d', p, v, h1, h2, h3, h4⟩
    · rw [h1] at hf; cases hf
    · rw [h1] at hf
      cases hf
      exact wpAny_getItem_heap (kr hu) hkey hm h2 (h v p.2 _ h3 h4)
theorem dv_setItem {Hs : Hp} {d : Addr} {o : Obj} {es : List DictEntry} {kvs : List (D × D)} {kv xv : V} {k x : D} {n : NestedKey} {ku xu : Value} {Q : Unit → Shared → Prop} {E : Value → Shared → Prop} (hu : kroom X) (I : Inv X pins σ H s) (hs : Same Hs H) (hd : H d = some (.ext (DAt d o))) (fx : DFx d o es) (re : RpE (cn X) Hs es kvs) (nd : (kvs.map fun p => nk p.1).Nodup) (tk : tupK kvs)
    (rk : Rp (cn X) Hs kv k) (hk : shp 8 k = true) (hkt : ∃ xs, k = .tup xs) (hn : nk k = some n) (ru : RelV kv ku) (rx : Rp (cn X) Hs xv x) (rux : RelV xv xu) (hsz : kvs.length < sizeLine)
    (h : ∀ o' es' s', Inv X pins σ (upd H d (.ext (DAt d o'))) s' → DFx d o' es' → RpE (cn X) Hs es' (dput kvs k n x) → ((dput kvs k n x).map fun p => nk p.1).Nodup → Q () s') :
    wpAny (model X.prog X.w) X.A (setItem (.ref d) ku xu) Q E s := by
  obtain ⟨xs, hm, _, xr⟩ := Inv.dictAt I hs hd fx re nd tk
  obtain ⟨zs, rfl⟩ := hkt
  cases rk with
  | @tup a vs _ z hq ra =>
    obtain rfl : ku = Value.ref a := ru
    have hkey : (nestedKind X.prog X.w).is s.heap n a := ⟨Rp.nest I (Rp.tup z (SqT_same hs hq) (ra.same hs)) hn rfl, nk_depth hk hn⟩
    have hl := xr.length
    refine wpAny_setItem_heap (hsz := by omega) (kr hu) hkey hm fun h' hm' sb => ?_
    have xr' := xr.put (.tup z hq ra) hn (nk_depth hk hn) rux rx
    obtain ⟨o', ho', hex', ep', hdt'⟩ := DictOfH.parts hm'
    obtain ⟨_, _, _, _, _, _, _, _, hnd⟩ := id hm'
    refine h o' _ _ (I.write (t' := s.toks + (nestedKind X.prog X.w).draws n) (x := d) (e := d) (o := .ext (DAt d o')) (by rw [hd]; exact mut_ext) (.inl rfl) (fun b u hb e => (sb.2 b hb).trans e) ⟨o', ho'⟩ (ext_ok ho')) ⟨hex', ⟨ep', hdt'⟩, fx.ns, ?_⟩ xr'.rpe ?_
    · rw [List.length_map, xr'.length]
      unfold dput
      split
      · rw [List.length_map]; omega
      · rw [List.length_append, List.length_singleton]; omega
    · rw [xr'.keys]
      exact hnd.map some fun a b q e => q (Option.some.inj e)
end
end Dv

set_option Elab.async false
set_option linter.all false
set_option maxRecDepth 100000
/-! Dicts: the rules. -/
namespace Dv
open PySem L2

/-- x is of the built-in type T, by the state -/
def TyS (X : Cx) (T : String) (x : V) (H : Hp) : Prop := ∀ (pins : List (Addr × Obj)) (σ : L2.St) (s : Shared) (v : Value), Inv X pins σ H s → RelV x v → s.TypeIs v T ∧ ∀ a, v = .ref a → ∃ ob, s.heap.get? a = some ob ∧ ob.dict = none
def tBT (X : Cx) (T : String) (r : V → List V → Hp → VK → Prop) (to : TE) (t : TA) : TE := fun σ H Q => to σ H fun x H1 => TyS X T x H1 ∧ t σ H1 fun xs H2 => r x xs H2 Q
open PySem.Spec PyProof.Rows in
theorem pe_bmT {X : Cx} {o e : Expr} {es : List Expr} {to : TE} {t : TA} {name : Str} {apos cpos : Pos} {T id : String} {r : V → List V → Hp → VK → Prop} (pa : PlainAttrs T) (slot : PySem.Slot T name id) (hty : typeOf (.builtin id) = pure (.type "method_descriptor")) (hm : MtR X id r) (ho : PE X o to) (ha : PA X (e :: es) t)
    (hbase : attributeBase o name X.env (eval o X.env) = eval o X.env := by rfl)
    (hfew : ((backTo cpos (starEach (e :: es) X.env)).all (fun x => !x.1) && (backToKw cpos (keywordEach [] X.env)).all (fun x => x.1.isSome)
      && decide ((e :: es).length + ([] : List Keyword).length + (if ([] : List Keyword).isEmpty then 0 else 1) < 30)) = true := by rfl)
    (hline : (apos.endLine == cpos.line) = true := by rfl) (hs : starEach (e :: es) X.env = (false, eval e X.env) :: starEach es X.env := by rfl) (hplain : (backTo cpos (starEach es X.env)).any (·.1) = false := by rfl) :
    PE X (.Call (.Attribute o name apos) (e :: es) [] cpos) (tBT X T r to t) := by
  refine ⟨fun pins s σ H Q I h => ?_⟩
  refine wpAny_Call_method_late hbase hfew hline rfl (thn (ho.run pins s σ H _ I h) fun v s1 ⟨x, H1, I1, r1, ty, q1⟩ => ?_)
  obtain ⟨h1, h2⟩ := ty pins σ s1 v I1 r1
  refine ⟨T, id, pa, slot, hty, h1, h2, ?_⟩
  have hA := ha.run cpos pins s1 σ H1 _ I1 q1
  rw [hs] at hA ⊢
  refine Calls.callWith_builtin (by show (false || (backTo cpos (starEach es X.env)).any (·.1)) = false; rw [hplain] <;> rfl) (Calls.evalArgs_plain ?_)
  exact thn hA fun us s2 ⟨vs, H2, I2, r2, q2⟩ => hm pins s2 σ H2 x vs v us Q I2 r1 r2 q2
theorem tyS_dict {X : Cx} {H : Hp} {d : Addr} {o : Obj} {es : List DictEntry} (hd : H d = some (.ext (DAt d o))) (fx : DFx d o es) : TyS X "dict" (.ref d) H := fun pins σ s v I r => by
  obtain rfl : v = Value.ref d := r
  refine ⟨⟨o, Inv.dat I hd, fx.ex.1⟩, fun a e => ?_⟩
  cases e
  exact ⟨o, Inv.dat I hd, fx.ex.2.1⟩

section
variable {X : Cx}
/-- d.get(k, x) by values -/
def rGetX (X : Cx) : V → List V → Hp → VK → Prop := fun x xs H Q => ∃ (Hs : Hp) (d : Addr) (o : Obj) (es : List DictEntry) (kvs : List (D × D)) (kv xv : V) (k y : D) (n : NestedKey), x = .ref d ∧ xs = [kv, xv] ∧ Same Hs H ∧ H d = some (.ext (DAt d o)) ∧ DFx d o es ∧ RpE (cn X) Hs es kvs ∧ (kvs.map fun p => nk p.1).Nodup ∧ tupK kvs ∧
  Rp (cn X) Hs kv k ∧ shp 8 k = true ∧ (∃ xs, k = .tup xs) ∧ nk k = some n ∧ Rp (cn X) Hs xv y ∧ ∀ v, Rp (cn X) Hs v ((dfind kvs n).getD y) → Q v H
theorem mt_getX (hu : kroom X) : MtR X "dict.get" (rGetX X) := by
  intro pins s σ H x xs v us Q I rx rs h
  obtain ⟨Hs, d, o, es, kvs, kv, xv, k, y, n, rfl, rfl, hs, hd, fx, re, nd, tk, rk, hk, hkt, hn, ry, q⟩ := h
  obtain rfl : v = Value.ref d := rx
  obtain ⟨u1, u2, rfl, r1, r2⟩ := vals2 rs
  exact dv_get hu I hs hd fx re nd tk rk hk hkt hn r1 ry r2 fun v u tk' rv rp => ⟨v, H, I.tok tk', rv, q v rp⟩
/-- d[k] by values -/
def rIxX (X : Cx) : R2 := fun x kv H Q => ∃ (Hs : Hp) (d : Addr) (o : Obj) (es : List DictEntry) (kvs : List (D × D)) (k y : D) (n : NestedKey), x = .ref d ∧ Same Hs H ∧ H d = some (.ext (DAt d o)) ∧ DFx d o es ∧ RpE (cn X) Hs es kvs ∧ (kvs.map fun p => nk p.1).Nodup ∧ tupK kvs ∧
  Rp (cn X) Hs kv k ∧ shp 8 k = true ∧ (∃ xs, k = .tup xs) ∧ nk k = some n ∧ dfind kvs n = some y ∧ ∀ v, Rp (cn X) Hs v y → Q v H
theorem ix_dictX (hu : kroom X) : IxR X (rIxX X) := by
  intro value slice pins s σ H x y v u Q I rx ry h hsub
  obtain ⟨Hs, d, o, es, kvs, k, z, n, rfl, hs, hd, fx, re, nd, tk, rk, hk, hkt, hn, hf, q⟩ := h
  obtain rfl : v = Value.ref d := rx
  refine PyProof.Rows.tail_any (ops := [.ref d, u]) (T := "dict") ⟨o, Inv.dat I hd, fx.ex.1⟩ PySem.F.slot_dict_getitem.lookup ?_ hsub
  exact dv_getItem hu I hs hd fx re nd tk rk hk hkt hn ry hf fun v u tk' rv rp => ⟨v, H, I.tok tk', rv, q v rp⟩
theorem xd_dict (hu : kroom X) : IxD X (fun d e R => ∃ kvs n y, d = .dic kvs ∧ tupK kvs ∧ shp 8 e = true ∧ (∃ xs, e = .tup xs) ∧ nk e = some n ∧ dfind kvs n = some y ∧ R y) := by
  refine ⟨_, ix_dictX hu, fun Hs H x y d e R Q hs rx ry ⟨kvs, n, z, hd, tk, hk, hkt, hn, hf, h⟩ k => ?_⟩
  subst hd
  cases rx with
  | @dic a o es _ hH fx re nd => exact ⟨Hs, a, o, es, kvs, e, z, n, rfl, hs, hs _ _ hH, fx, re, nd, tk, ry, hk, hkt, hn, hf, fun v rv => k _ Hs H _ h (Lay.refl hs) rv⟩
end

section
variable {W : Wld} {B : Bs W} {X : Cx} {e : Expr} {es : List Expr} {te : TD W} {t : TDA W} {pos cpos apos : Pos}
/-- e.get(k, x), e a dict that is data -/
def getP (kvs : List (D × D)) (ds : List D) (R : D → Prop) : Prop := ∃ k y n, ds = [k, y] ∧ tupK kvs ∧ shp 8 k = true ∧ (∃ xs, k = .tup xs) ∧ nk k = some n ∧ R ((dfind kvs n).getD y)
def dGet (te : TD W) (t : TDA W) : TD W := fun ρ s Q => te ρ s fun d s1 => ∃ kvs, d = .dic kvs ∧ t ρ s1 fun ds s2 => getP kvs ds fun v => Q v s2
theorem de_get {o a b : Expr} (hu : kroom X) (ho : DE W B X o te) (ha : DA W B X [a, b] t)
    (hbase : attributeBase o "get" X.env (eval o X.env) = eval o X.env := by rfl)
    (hfew : ((backTo cpos (starEach [a, b] X.env)).all (fun x => !x.1) && (backToKw cpos (keywordEach [] X.env)).all (fun x => x.1.isSome)
      && decide ([a, b].length + ([] : List Keyword).length + (if ([] : List Keyword).isEmpty then 0 else 1) < 30)) = true := by rfl)
    (hline : (apos.endLine == cpos.line) = true := by rfl) (hs : starEach [a, b] X.env = (false, eval a X.env) :: starEach [b] X.env := by rfl) (hplain : (backTo cpos (starEach [b] X.env)).any (·.1) = false := by rfl) :
    DE W B X (.Call (.Attribute o "get" apos) [a, b] [] cpos) (dGet te t) := by
  refine ⟨pe_imp (pe_bmT PySem.F.plainAttrs_dict PySem.F.slot_dict_get PySem.F.type_dict_get (mt_getX hu) ho.run ha.run hbase hfew hline hs hplain) fun σ H Q h => ?_⟩
  obtain ⟨Hs, ρ, s, R, S, h1, k⟩ := h
  refine ⟨Hs, ρ, s, _, S, h1, fun d s1 Hs1 H1 v hR g1 rv => ?_⟩
  obtain ⟨kvs, rfl, hR⟩ := hR
  cases rv with
  | @dic a o es _ hH fx re nd =>
    refine ⟨tyS_dict (g1.sub _ _ hH) fx, Hs1, ρ, s1, _, S.step g1, hR, fun ds s2 Hs2 H2 vs hR2 g2 rs => ?_⟩
    obtain ⟨kk, y, n, rfl, tk, hk, hkt, hn, hq⟩ := hR2
    cases rs with
    | cons ra rs =>
      cases rs with
      | cons rb rs =>
        cases rs
        exact ⟨Hs2, a, o, es, kvs, _, _, kk, y, n, rfl, rfl, g2.sub, g2.sub _ _ (g2.fz _ _ hH), fx, re.same g2.fz, nd, tk, ra, hk, hkt, hn, rb, fun v rv => k _ s2 Hs2 H2 v hq (g1.trans g2) rv⟩
/-- x.get(k, y), x a dict of one's own -/
def dGetO (i : Nat) (t : TDA W) : TD W := fun ρ s Q => ∃ kvs, ρ[i]? = some (.own (.dic kvs)) ∧ t ρ s fun ds s2 => getP kvs ds fun v => Q v s2
theorem de_getO {x : Str} {p1 : Pos} {a b : Expr} {i : Nat} (hu : kroom X) (ho : PE X (.Name x p1) (tVar i)) (ha : DA W B X [a, b] t)
    (hbase : attributeBase (.Name x p1) "get" X.env (eval (.Name x p1) X.env) = eval (.Name x p1) X.env := by rfl)
    (hfew : ((backTo cpos (starEach [a, b] X.env)).all (fun x => !x.1) && (backToKw cpos (keywordEach [] X.env)).all (fun x => x.1.isSome)
      && decide ([a, b].length + ([] : List Keyword).length + (if ([] : List Keyword).isEmpty then 0 else 1) < 30)) = true := by rfl)
    (hline : (apos.endLine == cpos.line) = true := by rfl) (hs : starEach [a, b] X.env = (false, eval a X.env) :: starEach [b] X.env := by rfl) (hplain : (backTo cpos (starEach [b] X.env)).any (·.1) = false := by rfl) :
    DE W B X (.Call (.Attribute (.Name x p1) "get" apos) [a, b] [] cpos) (dGetO i t) := by
  refine ⟨pe_imp (pe_bmT PySem.F.plainAttrs_dict PySem.F.slot_dict_get PySem.F.type_dict_get (mt_getX hu) ho ha.run hbase hfew hline hs hplain) fun σ H Q h => ?_⟩
  obtain ⟨Hs, ρ, s, R, S, ⟨kvs, e1, h1⟩, k⟩ := h
  obtain ⟨q, o, a1, a2, a3, a4, a5, a6⟩ := S.ow i _ e1
  cases a3 with
  | @dic o es _ fx re nd =>
    refine ⟨_, a1, tyS_dict a2 fx, Hs, ρ, s, _, S, h1, fun ds s2 Hs2 H2 vs hR2 g2 rs => ?_⟩
    obtain ⟨kk, y, n, rfl, tk, hk, hkt, hn, hq⟩ := hR2
    cases rs with
    | cons ra rs =>
      cases rs with
      | cons rb rs =>
        cases rs
        exact ⟨Hs2, q, o, es, kvs, _, _, kk, y, n, rfl, rfl, g2.sub, g2.ext q _ a2 a5, fx, re.same g2.fz, nd, tk, ra, hk, hkt, hn, rb, fun v rv => k _ s2 Hs2 H2 v hq g2 rv⟩
/-- x = {} -/
def dNewD (i : Nat) : TDS W := fun E ρ s => E.nx (ρ.set i (.own (.dic []))) s
theorem pe_dnewX : PE X (.Dict [] [] pos) (fun _ H Q => ∀ p o, H p = none → DFx p o [] → Q (.ref p) (upd H p (.ext (DAt p o)))) := ⟨fun pins s σ H Q I h => by
  have e : (s.heap.push { cls := .type "dict", data := .dict #[] }).get? s.heap.objs.size = some { cls := .type "dict", data := .dict #[] } := Heap.get?_push_size _ rfl
  exact PySem.wpAny_Dict_empty ⟨.ref s.heap.objs.size, _, I.laid (a := s.heap.objs.size) (o := .ext (DAt s.heap.objs.size _)) (t' := s.toks) (fun _ _ q => Heap.get?_push_of_some _ q) (Nat.le_refl _) (ext_ok e), rfl, h _ _ (I.hok.fresh (Nat.le_refl _))
    ⟨⟨rfl, rfl, rfl⟩, ⟨0, rfl⟩, beq_eq_false_iff_ne.mpr (Ne.symm (Nat.ne_of_lt I.big)), Nat.zero_le _⟩⟩⟩
theorem ds_newD {i : Nat} {x : Str} {pos' p2 : Pos} (hN : X.N.Nodup) (hi : X.N[i]? = some x) (hx : Loc X.env.scope x) (hs : swapsWith (.Dict [] [] p2) (some (.Name x pos')) pos.line X.env = pure false := by rfl) (hf : X.fn x = true ∨ X.env.scope.names.lookup x = some .local := by first | exact .inl rfl | exact .inr rfl | assumption) :
    DS W B X (.Assign [.Name x pos'] (.Dict [] [] p2) pos) (dNewD i) := ⟨ps_imp (ps_set hN hi hx pe_dnewX hs hf) fun D σ H ⟨Hs, ρ, s, E, S, h1, k⟩ => fun p o hp fx => by
  have g : Go W s Hs H s Hs (upd H p (.ext (DAt p o))) := (Lay.mut S.sub hp).go S.rel
  have S1 := S.step g
  exact k.nx _ s Hs _ _ h1 (Same.refl _) (S1.setOwn upd_same (.dic fx .nil (by simp)) (S.sub.free hp) (fun z => W.there S.rel z hp) (free_of S.go.th hp) fun j b' _ ej => S.fresh hp j b' ej)⟩
/-- x[k] = v, x a dict of one's own -/
def dPutO (i : Nat) (te tk : TD W) : TDS W := fun E ρ s => te ρ s fun v s1 => ∃ kvs, ρ[i]? = some (.own (.dic kvs)) ∧ tk ρ s1 fun k s2 => ∃ n, tupK kvs ∧ shp 8 k = true ∧ (∃ xs, k = .tup xs) ∧ nk k = some n ∧ kvs.length < sizeLine ∧ E.nx (ρ.set i (.own (.dic (dput kvs k n v)))) s2
def rSetX (X : Cx) : TSet := fun o i v H Q => ∃ (Hs : Hp) (d : Addr) (ob : Obj) (es : List DictEntry) (kvs : List (D × D)) (k y : D) (n : NestedKey), o = .ref d ∧ Same Hs H ∧ H d = some (.ext (DAt d ob)) ∧ DFx d ob es ∧ RpE (cn X) Hs es kvs ∧ (kvs.map fun p => nk p.1).Nodup ∧ tupK kvs ∧
  Rp (cn X) Hs i k ∧ shp 8 k = true ∧ (∃ xs, k = .tup xs) ∧ nk k = some n ∧ Rp (cn X) Hs v y ∧ kvs.length < sizeLine ∧ ∀ o' es', DFx d o' es' → RpE (cn X) Hs es' (dput kvs k n y) → ((dput kvs k n y).map fun p => nk p.1).Nodup → Q (upd H d (.ext (DAt d o')))
theorem set_dictX (hu : kroom X) : PSet X (rSetX X) := by
  intro pins s σ H o i v ov iv u Q I ro ri rv h
  obtain ⟨Hs, d, ob, es, kvs, k, y, n, rfl, hs, hd, fx, re, nd, tk, rk, hk, hkt, hn, ry, hz, q⟩ := h
  obtain rfl : ov = Value.ref d := ro
  exact dv_setItem hu I hs hd fx re nd tk rk hk hkt hn ri ry rv hz fun o' es' s' I' fx' re' nd' => ⟨_, I', q o' es' fx' re' nd'⟩
theorem ds_putO {i : Nat} {x : Str} {p1 p2 : Pos} {key : Expr} {tk : TD W} (hu : kroom X) (hv : PE X (.Name x p1) (tVar i)) (he : DE W B X e te) (hk : DE W B X key tk)
    (ha : ∀ v, assign (.Subscript (.Name x p1) key p2) X.env v = (do
      let ov ← holding [v] (eval (.Name x p1) X.env)
      let iv ← holding [v, ov] (eval key X.env)
      standAt p2
      holding [v, ov, iv] (setItem ov iv v)
      release [v, ov, iv] []) := by intro _; rfl)
    (hs : swapsWithSole [.Subscript (.Name x p1) key p2] e pos.line X.env = pure false := by rfl) (hw : swappedStores [.Subscript (.Name x p1) key p2] e X.env = pure none := by rfl)
    (h1 : (assignEach [.Subscript (.Name x p1) key p2] X.env).map (·.2) = [assign (.Subscript (.Name x p1) key p2) X.env] := by rfl) :
    DS W B X (.Assign [.Subscript (.Name x p1) key p2] e pos) (dPutO i te tk) := by
  refine ⟨ps_imp (ps_asg he.run (pg_sub hv hk.run (set_dictX hu) ha) hs hw h1) fun D σ H ⟨Hs, ρ, s, E, S, h1, k⟩ => ?_⟩
  refine ⟨Hs, ρ, s, _, S, h1, fun d s1 Hs1 H1 v hR g1 rv => ?_⟩
  obtain ⟨kvs, e1, hR⟩ := hR
  have S1 := S.step g1
  obtain ⟨q, o, a1, a2, a3, a4, a5, a6⟩ := S1.ow i _ e1
  refine ⟨_, a1, Hs1, ρ, s1, _, S1, hR, fun kd s2 Hs2 H2 kv hR2 g2 rk => ?_⟩
  obtain ⟨n, tk, hk, hkt, hn, hz, hq⟩ := hR2
  have S2 := S1.step g2
  obtain ⟨q', o', b1, b2, b3, b4, b5, b6⟩ := S2.ow i _ e1
  rw [a1] at b1
  cases b1
  cases b3 with
  | @dic o es _ fx re nd =>
    exact ⟨Hs2, q, o, es, kvs, kd, d, n, rfl, S2.sub, b2, fx, re, nd, tk, rk, hk, hkt, hn, rv.same g2.fz, hz, fun o' es' fx' re' nd' => k.nx _ s2 Hs2 _ _ hq (g1.fz.trans g2.fz) (S2.mut e1 a1 (.dic fx' re' nd'))⟩
end
end Dv

set_option Elab.async false
set_option linter.all false
set_option maxRecDepth 100000
/-! dict(pairs), list(d), x.remove(y), x in y of one's own, two clauses. -/
namespace Dv
open PySem L2

/-! ### dict(pairs) -/
def pairD (p : D × D) : D := .tup [p.1, p.2]
def dmerge (kvs ps : List (D × D)) : List (D × D) := ps.foldl (fun acc p => match nk p.1 with | some n => dput acc p.1 n p.2 | none => acc) kvs
inductive PLs (h : Heap) : List Value → List (NestedKey × Addr × Value) → Prop
  | nil : PLs h [] []
  | cons {T a : Addr} {n : NestedKey} {u : Value} {its : List Value} {xs : List (NestedKey × Addr × Value)} : h.IsTuple T #[.ref a, u] → PLs h its xs → PLs h (.ref T :: its) ((n, a, u) :: xs)
theorem PLs.length {h : Heap} : ∀ {its : List Value} {xs : List (NestedKey × Addr × Value)}, PLs h its xs → its.length = xs.length
  | _, _, .nil => rfl
  | _, _, .cons _ t => by rw [List.length_cons, List.length_cons, PLs.length t]
theorem PLs.get {h : Heap} : ∀ {its : List Value} {xs : List (NestedKey × Addr × Value)} {j : Nat} {n : NestedKey} {a : Addr} {u : Value}, PLs h its xs → xs[j]? = some (n, a, u) → ∃ T, its[j]? = some (.ref T) ∧ h.IsTuple T #[.ref a, u]
  | _, _, _, _, _, _, .nil, e => by simp at e
  | _, _, 0, _, _, _, .cons x _, e => by
    simp at e
    obtain ⟨rfl, rfl, rfl⟩ := e
    exact ⟨_, rfl, x⟩
  | _, _, j + 1, _, _, _, .cons _ t, e => by
    obtain ⟨T, h1, h2⟩ := PLs.get (j := j) t (by simpa using e)
    exact ⟨T, by simpa using h1, h2⟩
section
variable {X : Cx} {pins : List (Addr × Obj)} {σ : L2.St} {H Hs : Hp} {s : Shared}
theorem pl_of (I : Inv X pins σ H s) (hs : Same Hs H) : ∀ {vs : List V} {its : List Value} {ps : List (D × D)}, RpA (cn X) Hs vs (ps.map pairD) → Vals vs its → tupK ps → (∀ p ∈ ps, ∃ n, nk p.1 = some n) → ∃ xs, PLs s.heap its xs ∧ XR (cn X) Hs xs ps := by
  intro vs
  induction vs with
  | nil =>
    intro its ps ra rv tk hk
    cases rv
    cases ps with
    | nil => exact ⟨[], .nil, .nil⟩
    | cons p ps => cases ra
  | cons v vs ih =>
    intro its ps ra rv tk hk
    cases ps with
    | nil => cases ra
    | cons p ps =>
      cases ra with
      | cons r ra =>
        cases rv with
        | cons rv rvs =>
          obtain ⟨hs8, zs, hz⟩ := tk p (by simp)
          obtain ⟨k, d⟩ := p
          have hz' : k = .tup zs := hz
          cases r with
          | @tup a ws _ z hq rw' =>
            obtain rfl : _ = Value.ref a := rv
            cases rw' with
            | cons r1 rw' =>
              cases rw' with
              | cons r2 rw' =>
                cases rw'
                obtain ⟨xs, h1, h2⟩ := ih ra rvs (fun p hp => tk p (by simp [hp])) fun p hp => hk p (by simp [hp])
                obtain ⟨its2, rv2, ht, _⟩ := I.tuple (SqT_same hs hq)
                obtain ⟨u1, u2, rfl, q1, q2⟩ := vals2 rv2
                have : ∃ b, u1 = Value.ref b ∧ Rp (cn X) Hs (V.ref b) k := by
                  rw [hz'] at r1 ⊢
                  cases r1 with
                  | @tup b _ _ z1 hq1 ra1 =>
                    obtain rfl : u1 = Value.ref b := q1
                    exact ⟨b, rfl, .tup z1 hq1 ra1⟩
                obtain ⟨b, rfl, rk⟩ := this
                obtain ⟨n, hn⟩ := hk (k, d) (by simp)
                exact ⟨(n, b, u2) :: xs, .cons (show s.heap.IsTuple a #[Value.ref b, u2] from ht) h1, .cons rk hn (nk_depth hs8 hn) q2 r2 h2⟩
theorem XR.merge {c : Cn} {H : Hp} : ∀ {xs ys : List (NestedKey × Addr × Value)} {kvs ps : List (D × D)}, XR c H ys kvs → XR c H xs ps → XR c H (storedAllH ys xs) (dmerge kvs ps)
  | _, _, _, _, a, .nil => a
  | _, _, _, _, a, .cons h1 h2 h3 h4 h5 t => by
    unfold storedAllH dmerge
    rw [List.foldl_cons, List.foldl_cons]
    simp only [h2]
    exact XR.merge (a.put h1 h2 h3 h4 h5) t
theorem dput_length (kvs : List (D × D)) (k : D) (n : NestedKey) (d : D) : (dput kvs k n d).length ≤ kvs.length + 1 := by
  unfold dput
  split
  · rw [List.length_map]; omega
  · rw [List.length_append, List.length_singleton]
    exact Nat.le_refl _
theorem dmerge_length : ∀ (ps kvs : List (D × D)), (dmerge kvs ps).length ≤ kvs.length + ps.length
  | [], kvs => by simp [dmerge]
  | p :: ps, kvs => by
    unfold dmerge
    rw [List.foldl_cons]
    cases h : nk p.1 with
    | none =>
      have := dmerge_length ps kvs
      unfold dmerge at this
      simp only [List.length_cons]
      omega
    | some n =>
      have := dmerge_length ps (dput kvs p.1 n p.2)
      have h2 := dput_length kvs p.1 n p.2
      unfold dmerge at this
      simp only [List.length_cons]
      omega
theorem XR.is (I : Inv X pins σ H s) (hs : Same Hs H) : ∀ {zs : List (NestedKey × Addr × Value)} {ps : List (D × D)}, XR (cn X) Hs zs ps → ∀ x ∈ zs, (nestedKind X.prog X.w).is s.heap x.1 x.2.1
  | _, _, .nil, _, h => by simp at h
  | _, _, .cons h1 h2 h3 _ _ t, y, hy => by
    rcases List.mem_cons.mp hy with rfl | hy
    · exact ⟨Rp.nest I (h1.same hs) h2 rfl, h3⟩
    · exact XR.is I hs t y hy
def rDictX (X : Cx) : List V → Hp → VK → Prop := fun xs H Q => ∃ (Hs : Hp) (a : Addr) (vs : List V) (ps : List (D × D)), xs = [.ref a] ∧ Same Hs H ∧ SqL X.K H a vs ∧ RpA (cn X) Hs vs (ps.map pairD) ∧ tupK ps ∧ (∀ p ∈ ps, ∃ n, nk p.1 = some n) ∧
  ∀ p o es, H p = none → DFx p o es → RpE (cn X) Hs es (dmerge [] ps) → ((dmerge [] ps).map fun q => nk q.1).Nodup → Q (.ref p) (upd H p (.ext (DAt p o)))
theorem call_dictX (hu : kroom X) (hc : X.calm = true) : CallR X (.type "dict") (rDictX X) := by
  intro pins s σ H xs us Q I r h
  obtain ⟨Hs, a, vs, ps, rfl, hs, hq, ra, tk, hk, q⟩ := h
  obtain ⟨u, rfl, ru⟩ := vals1 r
  obtain rfl : u = Value.ref a := ru
  obtain ⟨its, rv, ⟨o, n, ho, hcl, hdn, hdt⟩, hz⟩ := I.list hq
  obtain ⟨zs, pl, xr⟩ := pl_of I hs ra rv tk hk
  have hlen := pl.length
  have hlv := rv.length
  have hlx := xr.length
  have hat : ∀ (j : Nat) (k v : Value), (zs.map fun x => (Value.ref x.2.1, x.2.2))[j]? = some (k, v) → ∃ n b, zs[j]? = some (n, b, v) ∧ k = .ref b := fun j k v e => by
    rw [List.getElem?_map] at e
    cases e2 : zs[j]? with
    | none => rw [e2] at e; cases e
    | some z =>
      rw [e2] at e
      cases e
      exact ⟨z.1, z.2.1, rfl, rfl⟩
  have P := PairArg.list (prog := X.prog) (w := X.w) a its.toArray (fun j => match its[j]? with | some (.ref T) => T | _ => 0) (zs.map fun x => (Value.ref x.2.1, x.2.2))
  have hkeys : ∀ {h' : Heap}, (∀ b ob, s.heap.get? b = some ob → h'.get? b = some ob) → ∀ x ∈ zs, (nestedKind X.prog X.w).is h' x.1 x.2.1 := fun {h'} k x hx => by
    exact nestedKind_stays.stays (fun b o _ _ e _ => k b o e) (XR.is I hs xr x hx)
  refine call_dict_pairsH (knd := nestedKind X.prog X.w) (ps := zs) P (I.ok.hd hc) ?_ ⟨⟨o, n, ho, hcl, hdn, hdt⟩, ?_, fun j k v e => ?_⟩ ⟨by simp, fun i key v e => ?_⟩ (fun h' kk => hkeys fun b ob e => kk b ob (Nat.ne_of_lt (Heap.lt_size e)) (fun z => nomatch z) e) ?_ fun h' tk' hm hk' => ?_
  · show X.A.units + 1 + 1 + 8 < cLine
    have : X.A.units + 66 < cLine := hu
    omega
  · simp [hlen]
  · obtain ⟨n', b, e1, rfl⟩ := hat j k v e
    obtain ⟨T, e2, e3⟩ := pl.get e1
    refine ⟨?_, .inl ?_⟩
    · simp [e2]
    · simpa [e2] using e3
  · obtain ⟨n', b, e1, e2⟩ := hat i key v e
    exact ⟨n', b, e1, e2⟩
  · rw [List.length_map]
    omega
  · obtain ⟨o', ho', hex', ep', hdt'⟩ := DictOfH.parts hm
    have xr' : XR (cn X) Hs (storedAllH [] zs) (dmerge [] ps) := XR.merge .nil xr
    obtain ⟨_, _, _, _, _, _, _, _, hnd⟩ := id hm
    refine ⟨.ref s.heap.objs.size, _, I.laid (t' := tk') (o := .ext (DAt s.heap.objs.size o')) (fun b ob e => hk' b ob (fun z => nomatch z) e) (Nat.le_refl _) (ext_ok ho'), rfl, q _ o' _ (I.hok.fresh (Nat.le_refl _)) ⟨hex', ⟨ep', hdt'⟩, beq_eq_false_iff_ne.mpr (Ne.symm (Nat.ne_of_lt I.big)), ?_⟩ xr'.rpe ?_⟩
    · rw [List.length_map, xr'.length]
      have := dmerge_length ps []
      simp only [List.length_nil, Nat.zero_add] at this
      have hl2 := ra.length
      rw [List.length_map] at hl2
      omega
    · rw [xr'.keys]
      exact hnd.map some fun a b q e => q (Option.some.inj e)
theorem cd_dict (hu : kroom X) (hc : X.calm = true) : CallD X (.type "dict") (fun ds R => ∃ ps, ds = [.lst (ps.map pairD)] ∧ tupK ps ∧ (∀ p ∈ ps, ∃ n, nk p.1 = some n) ∧ R (.dic (dmerge [] ps))) :=
  ⟨_, call_dictX hu hc, fun Hs H vs ds R Q hs ra ⟨ps, e, tk, hk, h⟩ k => by
    subst e
    cases ra with
    | cons r ra =>
      cases ra
      cases r with
      | @lst a vs _ z hq rb =>
        exact ⟨Hs, a, vs, ps, rfl, hs, hs.seq hq, rb, tk, hk, fun p o es hp fx re nd => k _ _ _ _ h (Lay.one hs hp) (.dic upd_same fx (re.same (Same.updR (hs.free hp))) nd)⟩⟩

/-! ### list(d) -/
theorem keys_vals {c : Cn} : ∀ {es : List DictEntry} {kvs : List (D × D)}, RpE c Hs es kvs → ∃ vs, Vals vs (es.map (·.key)) ∧ RpA c Hs vs (kvs.map (·.1))
  | _, _, .nil => ⟨[], .nil, .nil⟩
  | _, _, .cons a b _ _ _ _ t => by
    obtain ⟨vs, h1, h2⟩ := keys_vals t
    exact ⟨_ :: vs, .cons a h1, .cons b h2⟩
theorem call_listX (hc : X.calm = true) : CallR X (.type "list") (fun xs H Q => ∃ (Hs : Hp) (d : Addr) (o : Obj) (es : List DictEntry) (kvs : List (D × D)), xs = [.ref d] ∧ Same Hs H ∧ H d = some (.ext (DAt d o)) ∧ DFx d o es ∧ RpE (cn X) Hs es kvs ∧
    ∀ p vs, H p = none → RpA (cn X) Hs vs (kvs.map (·.1)) → Q (.ref p) (upd H p (.lst vs))) := by
  intro pins s σ H xs us Q I r h
  obtain ⟨Hs, d, o, es, kvs, rfl, hs, hd, fx, re, q⟩ := h
  obtain ⟨u, rfl, ru⟩ := vals1 r
  obtain rfl : u = Value.ref d := ru
  obtain ⟨ep, hdt⟩ := fx.dt
  have hm : s.heap.DictRaw d es.toArray ep := ⟨o, Inv.dat I hd, fx.ex, hdt⟩
  refine PySem.W.kdl_call (KdlSrc.rawDict fx.ns) (I.ok.hd hc) hm (by simpa using fx.sz) fun h' tk' acc c' hk hD hacc => ?_
  obtain ⟨vs, h1, h2⟩ := keys_vals re
  have ea : acc.toList = es.map (·.key) := by
    apply List.ext_getElem?
    intro j
    rw [Array.getElem?_toList]
    by_cases hj : j < acc.size
    · obtain ⟨hi, e⟩ := hacc.2 j acc[j] (Array.getElem?_eq_getElem hj)
      rw [Array.getElem?_eq_getElem hj, e, List.getElem?_map]
      simp only [List.size_toArray] at hi
      rw [List.getElem?_eq_getElem hi]
      simp
    · have hs2 : acc.size = es.toArray.size := hacc.1
      rw [Array.getElem?_eq_none (by omega), List.getElem?_eq_none (by simp at hs2 ⊢; omega)]
  refine ⟨.ref s.heap.objs.size, _, I.laid (t' := tk') (o := .lst vs) hk (Nat.le_refl _) ⟨?_, acc.toList, c', by rw [ea]; exact h1, by simpa using hD⟩, rfl, q _ vs (I.hok.fresh (Nat.le_refl _)) h2⟩
  rw [h1.length, List.length_map]
  exact fx.sz
theorem cd_listD (hc : X.calm = true) : CallD X (.type "list") (fun ds R => ∃ kvs, ds = [.dic kvs] ∧ R (.lst (kvs.map (·.1)))) :=
  ⟨_, call_listX hc, fun Hs H vs ds R Q hs ra ⟨kvs, e, h⟩ k => by
    subst e
    cases ra with
    | cons r ra =>
      cases ra
      cases r with
      | @dic a o es _ hH fx re nd =>
        exact ⟨Hs, a, o, es, kvs, rfl, hs, hs _ _ hH, fx, re, fun p vs hp rv => k _ _ _ _ h (Lay.one hs hp) (.lstN (hs.free hp) (by rw [List.length_map, ← re.length]; exact fx.sz) rv)⟩⟩
end
end Dv

set_option Elab.async false
set_option linter.all false
set_option maxRecDepth 100000
set_option maxHeartbeats 4000000
/-! list.remove of a datum; reading a list of one's own on the way. -/
namespace Dv
open PySem L2 PySem.Spec PyProof.Rows
open AutoSeq1 (wpAny_loadPart')
open MeetsSeq MeetsSeq2 MeetsSeq3 SeqRoads2 SeqAt

/-! ### list.remove -/
theorem rem_loop (l : Addr) (items : Array Value) (n : Nat) (x : Value) (e : Value → Bool) (j : Nat) (hj : j < items.size) (hit : e items[j] = true) (hno : ∀ m (hm : m < items.size), m < j → e items[m] = false) (hz : items.size ≤ sizeLine) (k : Nat) :
    ∀ i : Nat, j - i = k → i ≤ j → Meets (Builtin.«list.remove.loop» ⟨[.ref l, x, rawInt i], []⟩)
      (fun A R s => s.heap.get? l = some { cls := .type "list", dict := none, data := .seq items n, slots := #[] } ∧ (∀ y, y ∈ items → EqAt A.in1 s y x (e y)) ∧
        R (.ok (.ret .none)) { s with heap := s.heap.update l (Obj.mapSeq fun xs => xs.eraseIdxIfInBounds j) }) := by
  have more : (items.eraseIdxIfInBounds j).size ≤ sizeLine + 1 := Nat.le_trans (size_erased items _) (Nat.le_succ_of_le hz)
  induction k with
  | zero =>
    intro i h1 h2 prog w A R s h
    obtain ⟨hp, g, d, tk, os⟩ := s
    obtain ⟨hl, he, h⟩ := h
    obtain rfl : i = j := by omega
    wp_walk using wpAny_loadPart' hl
    rw [show items[((i : Nat) : Int).toNat]? = some items[i] by simp [hj]]
    refine wpAny_bind (he _ (Array.getElem_mem hj) prog w _ _ ?_)
    rw [hit]
    wp_walk using (wpAny_updateSeq hl rfl (hz := hz) (_hz' := more)), wpAny_loadPart' hl
    simpa using h
  | succ k ih =>
    intro i h1 h2 prog w A R s h
    obtain ⟨hp, g, d, tk, os⟩ := s
    obtain ⟨hl, he, h⟩ := h
    have hi : i < items.size := by omega
    wp_walk using wpAny_loadPart' hl
    rw [show items[((i : Nat) : Int).toNat]? = some items[i] by simp [hi]]
    refine wpAny_bind (he _ (Array.getElem_mem hi) prog w _ _ ?_)
    rw [hno i hi (by omega)]
    wp_walk
    rw [show ((i : Int) + 1) = ((i + 1 : Nat) : Int) by push_cast; rfl]
    exact ⟨plainId_quiet plain_remove_loop _, codeAny_builtin entry_remove_loop (by
      rw [Around.under_plainId plain_remove_loop _]
      exact ih (i + 1) (by omega) (by omega) prog w A R _ ⟨hl, he, h⟩)⟩
theorem list_rem (l : Addr) (items : Array Value) (n : Nat) (x : Value) (e : Value → Bool) (j : Nat) (hj : j < items.size) (hit : e items[j] = true) (hno : ∀ m (hm : m < items.size), m < j → e items[m] = false) (hz : items.size ≤ sizeLine) :
    Meets (Builtin.«list.remove» ⟨[.ref l, x], []⟩)
      (fun A R s => s.heap.get? l = some { cls := .type "list", dict := none, data := .seq items n, slots := #[] } ∧ (∀ y, y ∈ items → EqAt A.in1 s y x (e y)) ∧
        R (.ok (.ret .none)) { s with heap := s.heap.update l (Obj.mapSeq fun xs => xs.eraseIdxIfInBounds j) }) := by
  intro prog w A R s h
  obtain ⟨hp, g, d, tk, os⟩ := s
  obtain ⟨hl, he, h⟩ := h
  wp_walk using wpAny_loadPart' hl
  exact ⟨plainId_quiet plain_remove_loop _, codeAny_builtin entry_remove_loop (by
    rw [Around.under_plainId plain_remove_loop _]
    exact rem_loop l items n x e j hj hit hno hz _ 0 rfl (Nat.zero_le _) prog w A R _ ⟨hl, he, h⟩)⟩

section
variable {X : Cx}
/-- the first place of a datum -/
def placeD (d : D) (xs : List D) : Nat := xs.findIdx fun z => eqD z d
def remD (d : D) (xs : List D) : List D := xs.eraseIdx (placeD d xs)
theorem RpA.erase {c : Cn} {H : Hp} : ∀ {vs : List V} {ds : List D} (j : Nat), RpA c H vs ds → RpA c H (vs.eraseIdx j) (ds.eraseIdx j)
  | _, _, _, .nil => .nil
  | _, _, 0, .cons _ t => t
  | _, _, j + 1, .cons r t => .cons r (RpA.erase j t)
def rRemD (X : Cx) : V → List V → Hp → VK → Prop := fun x ys H Q => ∃ (l : Addr) (vs : List V) (y : V) (xs : List D) (d : D) (n : Nat), n < 64 ∧ x = .ref l ∧ ys = [y] ∧ H l = some (.lst vs) ∧ RpA (cn X) H vs xs ∧ Rp (cn X) H y d ∧ shp n d = true ∧ (∀ x ∈ xs, shp n x = true) ∧ inD d xs = true ∧
  Q .non (upd H l (.lst (vs.eraseIdx (placeD d xs))))
theorem eqD_py (z d : D) : PyData.eqv z.py d.py = eqD z d := rfl
theorem mt_rem (hu : X.A.units + 65 < cLine) : MtM X "list.remove" (rRemD X) := by
  intro pins s σ H x ys v us Q I rx rxs h
  obtain ⟨l, vs, y, xs, d, n, hn, rfl, rfl, hH, ra, rd, sd, sx, hin, q⟩ := h
  cases rx
  obtain ⟨uy, rfl, ru⟩ := rxs.one
  obtain ⟨z, its, m, r, hl, e⟩ := I.lstM hH
  have sl : shp (n + 1) (.lst xs) = true := by rw [shp, List.all_eq_true]; exact sx
  have sl' : SeqAt.shaped (.list (pys xs)) = true := by
    have := shp_shaped sl (by omega)
    rwa [D.py] at this
  have sd' : SeqAt.shaped d.py = true := shp_shaped sd (by omega)
  have hxs : PyData.canLayAll0 (pys xs) = true := SeqAt.canLay_of_shaped sl'
  obtain ⟨bs, r1⟩ := Dp.reads I d.py y uy (rd.dp sd) ru
  obtain ⟨as, h4⟩ := Dp.readsAll I (pys xs) vs its (ra.dp sx) r
  have hmap : its.map (SeqAt.readOf s.heap) = pys xs := SeqAt.readsAll_map (pys xs) its as hxs h4
  have hroom : X.A.units + 1 + min (PyData.depthAll (pys xs)) d.py.depth < cLine := room_in_shaped sd' hu
  have hlx : vs.length = xs.length := ra.length
  have hli : its.length = xs.length := by rw [← hl, hlx]
  have hany : ∃ x ∈ xs, eqD x d = true := by
    have := hin
    rw [inD, List.any_eq_true] at this
    exact this
  have hpl : placeD d xs < xs.length := List.findIdx_lt_length.mpr hany
  have hj : placeD d xs < its.toArray.size := by simp; omega
  have at_ : ∀ (k : Nat) (hk : k < its.toArray.size) (hk' : k < xs.length), SeqAt.readOf s.heap its.toArray[k] = (xs[k]).py := by
    intro k hk hk'
    have e1 := congrArg (fun l => l[k]?) hmap
    have hk2 : k < its.length := by simpa using hk
    simp only [pys_map, List.getElem?_map, List.getElem?_eq_getElem hk2, List.getElem?_eq_getElem hk', Option.map_some] at e1
    simpa using e1
  refine call_meets PySem.F.slot_list_remove ⟨_, e, rfl⟩ PySem.F.entry_list_remove (PySem.F.args_list_remove_2 _ _)
    (list_rem l its.toArray m uy (fun u => PyData.eqv (SeqAt.readOf s.heap u) d.py) (placeD d xs) hj ?_ ?_ (by rw [List.size_toArray]; omega))
    ⟨e, SeqAt.items_eqAt (vs := its.toArray) (show ReadsAll s.heap its.toArray.toList (pys xs) as from h4) r1 hxs (SeqAt.canLay_of_shaped sd') hroom, ?_⟩
  · show PyData.eqv (SeqAt.readOf s.heap its.toArray[placeD d xs]) d.py = true
    rw [at_ _ hj hpl, eqD_py]
    exact List.findIdx_getElem (w := hpl)
  · intro k hk hkj
    have hk' : k < xs.length := by omega
    show PyData.eqv (SeqAt.readOf s.heap its.toArray[k]) d.py = false
    rw [at_ _ hk hk', eqD_py]
    have := List.not_of_lt_findIdx hkj
    simpa using this
  · refine ⟨.non, _, I.lset (its' := its.eraseIdx (placeD d xs)) (t' := s.toks) hH e ?_ (r.eraseIdx _) ?_, rfl, q⟩
    · show its.toArray.eraseIdxIfInBounds (placeD d xs) = (its.eraseIdx (placeD d xs)).toArray
      rw [List.eraseIdxIfInBounds_toArray]
    · have := List.length_eraseIdx_le vs (placeD d xs)
      omega
/-- x.remove(y) -/
theorem ow_remove (hu : X.A.units + 65 < cLine) (n : Nat) (hn : n < 64 := by decide) : OwnM X "list.remove" (fun xs ds R => ∃ d, ds = [d] ∧ shp n d = true ∧ (∀ x ∈ xs, shp n x = true) ∧ inD d xs = true ∧ xs.length ≤ sizeLine ∧ R .non (remD d xs)) := by
  refine ⟨_, mt_rem hu, fun Hs H q vs xs as ds R Q hq ra rs hS hqs h k => ?_⟩
  obtain ⟨d, rfl, h1, h2, h3, h4, hR⟩ := h
  cases rs with
  | cons r rs =>
    cases rs
    refine ⟨q, vs, _, xs, d, n, hn, rfl, rfl, hq, ra.same hS, r.same hS, h1, h2, h3, k .non _ _ .non hR (ra.erase _) .non ?_⟩
    have := List.length_eraseIdx_le xs (placeD d xs)
    show (xs.eraseIdx (placeD d xs)).length ≤ sizeLine
    omega

/-! ### on the way: a list of one's own, read by an operation that gives a leaf -/
def leafD : D → Bool
  | .non => true | .bl _ => true | .int _ => true | .str _ => true | .raw _ => true | _ => false
theorem Rp.leaf {c : Cn} {H H' : Hp} {v : V} {d : D} (r : Rp c H v d) (h : leafD d = true) : Rp c H' v d := by
  cases r with
  | non => exact .non
  | bl => exact .bl _
  | int => exact .int _
  | str z => exact .str z
  | raw => exact .raw _
  | tup => cases h
  | lst => cases h
  | dic => cases h
variable {W : Wld} {B : Bs W}
theorem Lay.bare {Hs H Hs' H' : Hp} (hs : Same Hs H) (l : Lay H H Hs' H') : Lay Hs H Hs H' := ⟨Same.refl _, hs.trans l.ext, fun _ q => .inl q, l.ext⟩
/-- a left operand, and a list of one's own on the right -/
def dOpO (i : Nat) (p : P2) (ta : TD W) : TD W := fun ρ s Q => ∃ xs, ρ[i]? = some (.own (.lst xs)) ∧ ta ρ s fun x s1 => p x (.lst xs) fun d => leafD d = true ∧ Q d s1
theorem lift_opO {r : R2} {p : P2} {i : Nat} {ta : TD W} (l : Lk2 X r p) {σ : L2.St} {H : Hp} {Q : VK} (h : liftE (cn X) W B (dOpO i p ta) σ H Q) : tOp r (liftE (cn X) W B ta) (tVar i) σ H Q := by
  obtain ⟨Hs, ρ, s, R, S, ⟨xs, e1, h1⟩, k⟩ := h
  refine ⟨Hs, ρ, s, _, S, h1, fun x s1 Hs1 H1 v hR g rv => ?_⟩
  obtain ⟨q, o, a1, a2, a3, a4, a5, a6⟩ := (S.step g).ow i _ e1
  cases a3 with
  | lst z ra =>
    exact ⟨_, a1, l H1 H1 v (.ref q) x (.lst xs) _ _ (Same.refl _) (rv.same g.sub) (.lst z (SqL.of a2) (ra.same g.sub)) hR fun d Hs2 H2 w ⟨hd, hq⟩ ly rw' => k d s1 Hs1 H2 w hq (g.trans ((Lay.bare g.sub ly).go g.rel)) (rw'.leaf hd)⟩
theorem de_cmpO {i : Nat} {a b : Expr} {pos : Pos} {ta : TD W} {op : CmpOp} {p : P2} (ho : OpD X (compareOp op) p) (ha : DE W B X a ta) (hb : PE X b (tVar i)) (hm : behindInMarks op b = false := by first | exact nomark _ | rfl) : DE W B X (.Compare a [op] [b] pos) (dOpO i p ta) := by
  obtain ⟨r, hr, l⟩ := ho
  exact ⟨pe_imp (pe_cmpR hr ha.run hb hm) fun σ H Q h => lift_opO l h⟩
theorem dt_cmpO {i : Nat} {a b : Expr} {pos : Pos} {ta : TD W} {op : CmpOp} {p : P2} (ho : OpD X (compareOp op) p) (ha : DE W B X a ta) (hb : PE X b (tVar i)) (hm : behindInMarks op b = false := by first | exact nomark _ | rfl) : DT W B X (.Compare a [op] [b] pos) (dB (dOpO i p ta)) := by
  obtain ⟨r, hr, l⟩ := ho
  refine ⟨pt_imp (pt_cmpR hr ha.run hb hm) fun σ H Q h => ?_⟩
  obtain ⟨Hs, ρ, s, R, S, h1, k⟩ := h
  refine lift_opO l ⟨Hs, ρ, s, _, S, h1, fun d s1 Hs1 H1 v hR g r => ?_⟩
  obtain ⟨b, rfl, hq⟩ := hR
  exact ⟨b, r.blE, k b s1 Hs1 H1 hq g⟩
/-- f(x) of a list of one's own -/
def dCallO (i : Nat) (p : PL) : TD W := fun ρ s Q => ∃ xs, ρ[i]? = some (.own (.lst xs)) ∧ p [.lst xs] fun d => leafD d = true ∧ Q d s
theorem de_callO {i : Nat} {x : Str} {e : Expr} {p' pos : Pos} {id : String} {p : PL} (hc : CallD X (.builtin id) p) (hg : Gl X x) (hm : X.mg x = none) (hv : bootBuiltins x = some (.builtin id)) (he : PE X e (tVar i)) (hn : x ≠ "__name__" := by decide) (hdb : (x == ("__debug__" : Str)) = false := by decide)
    (hs : starEach [e] X.env = [(false, eval e X.env)] := by rfl) : DE W B X (.Call (.Name x p') [e] [] pos) (dCallO (W := W) i p) := by
  obtain ⟨r, hr, l⟩ := hc
  refine ⟨pe_imp (pe_callB hr hg hm hv (pa_cons he pa_nil hs) hn hdb hs) fun σ H Q h => ?_⟩
  obtain ⟨Hs, ρ, s, R, S, ⟨xs, e1, h1⟩, k⟩ := h
  obtain ⟨q, o, a1, a2, a3, a4, a5, a6⟩ := S.ow i _ e1
  cases a3 with
  | lst z ra =>
    exact ⟨_, a1, l H H [.ref q] [.lst xs] _ _ (Same.refl _) (.one (.lst z (SqL.of a2) (ra.same S.sub))) h1 fun d Hs2 H2 w ⟨hd, hq⟩ ly rw' => k d s Hs H2 w hq ((Lay.bare S.sub ly).go S.rel) (rw'.leaf hd)⟩
end
end Dv

set_option Elab.async false
set_option linter.all false
set_option maxRecDepth 100000
set_option maxHeartbeats 4000000
/-! comprehensions of two clauses; name = [..]. -/
namespace Dv
open PySem L2

/-! ### a heap without one thing -/
def rid (p : Addr) (H : Hp) : Hp := fun a => if a = p then none else H a
theorem rid_same {p : Addr} {H : Hp} : rid p H p = none := by unfold rid; rw [if_pos rfl]
theorem rid_ne {p a : Addr} {H : Hp} (h : a ≠ p) : rid p H a = H a := by unfold rid; rw [if_neg h]
theorem rid_free {p : Addr} {H : Hp} (h : H p = none) : rid p H = H := by
  funext a
  by_cases z : a = p
  · rw [z, rid_same, h]
  · rw [rid_ne z]
theorem rid_upd {p : Addr} {H : Hp} {o : HO} : rid p (upd H p o) = rid p H := by
  funext a
  by_cases z : a = p
  · rw [z, rid_same, rid_same]
  · rw [rid_ne z, rid_ne z, upd_ne z]
theorem rid_le {p a : Addr} {H : Hp} {o : HO} (h : rid p H a = some o) : a ≠ p ∧ H a = some o := by
  by_cases z : a = p
  · rw [z, rid_same] at h; cases h
  · rw [rid_ne z] at h; exact ⟨z, h⟩
section
variable {c : Cn} {W : Wld}
theorem Go.rid {s s' : W.S} {Hs H Hs' H' : Hp} {p : Addr} (g : Go W s Hs H s' Hs' H') (h1 : Hs p = none) (h2 : H p ≠ none) (h3 : ¬ W.own s p) : Go W s Hs (rid p H) s' Hs' (rid p H') ∧ Hs' p = none ∧ ¬ W.own s' p ∧ H' p = H p := by
  have f : Hs' p = none := by
    cases q : Hs' p with
    | none => rfl
    | some u =>
      rcases g.new p (by rw [q]; exact fun z => nomatch z) with z | z
      · exact absurd h1 z
      · exact absurd z h2
  have n : ¬ W.own s' p := fun z => by
    rcases g.wn p z with y | y
    · exact h3 y
    · exact h2 y
  refine ⟨⟨g.fz, fun a u q => ?_, fun a q => ?_, fun a u q nn => ?_, fun a q => ?_, fun a q => ?_, W.keep g.rel (Same.refl _) (fun _ _ z => z) fun a q => ?_⟩, f, n, ?_⟩
  · rw [rid_ne (fun z => by rw [z, f] at q; cases q)]
    exact g.sub a u q
  · by_cases z : a = p
    · rw [z]; exact .inr rid_same
    · rw [rid_ne z]; exact g.new a q
  · obtain ⟨z, q⟩ := rid_le q
    rw [rid_ne z]
    exact g.ext a u q nn
  · by_cases z : a = p
    · rw [z, rid_same] at q; exact absurd rfl q
    · rw [rid_ne z] at q ⊢; exact g.th a q
  · by_cases z : a = p
    · rw [z]; exact .inr rid_same
    · rw [rid_ne z]; exact g.wn a q
  · exact rid_ne (fun z : a = p => n (by rw [← z]; exact q))
  · obtain ⟨o, e⟩ := ne_none h2
    rw [e]
    exact g.ext p o e h3
theorem rel_unrid {s : W.S} {Hs H : Hp} {p : Addr} (r : W.rel s Hs (rid p H)) (h : ¬ W.own s p) : W.rel s Hs H := W.keep r (Same.refl _) (fun _ _ z => z) fun a q => (rid_ne (fun z : a = p => h (by rw [← z]; exact q))).symm
theorem same_unrid {Hs H : Hp} {p : Addr} (r : Same Hs (rid p H)) : Same Hs H := fun a o q => (rid_le (r a o q)).2
variable {B : Bs W} {σ : L2.St} {ρ : Env}
theorem Stt.unrid {H Hs : Hp} {s : W.S} {p : Addr} (S : Stt c W B σ (Dv.rid p H) ρ s Hs) (h : ¬ W.own s p) : Stt c W B σ H ρ s Hs := by
  refine ⟨⟨S.go.fz, same_unrid S.go.sub, S.go.new, fun a o q n => (rid_le (S.go.ext a o q n)).2, fun a q => ?_, S.go.wn, rel_unrid S.go.rel h⟩, S.len, S.dat, fun i b e => ?_, S.ap⟩
  · obtain ⟨o, e⟩ := ne_none (S.go.th a q)
    rw [(rid_le e).2]
    exact fun z => nomatch z
  · obtain ⟨q, o, a1, a2, a3, a4, a5, a6⟩ := S.ow i b e
    exact ⟨q, o, a1, (rid_le a2).2, a3, a4, a5, a6⟩
/-- the base with p in it -/
def plus (B : Bs W) (p : Addr) (H : Hp) : Bs W := ⟨B.s, B.Hs, fun a => if a = p then H p else B.H a, B.ex⟩
theorem Stt.over {H Hs : Hp} {s : W.S} {p : Addr} (S : Stt c W B σ (Dv.rid p H) ρ s Hs) (h1 : Hs p = none) (h : ¬ W.own s p) (hb : B.H p = none) : Stt c W (plus B p H) σ H ρ s Hs := by
  have S' := S.unrid h
  refine ⟨⟨S'.go.fz, S'.go.sub, fun a q => ?_, fun a o q n => ?_, fun a q => ?_, fun a q => ?_, S'.go.rel⟩, S.len, S.dat, fun i b e => ?_, S.ap⟩
  · rcases S'.go.new a q with z | z
    · exact .inl z
    · refine .inr ?_
      show (if a = p then H p else B.H a) = none
      rw [if_neg (fun y : a = p => q (by rw [y]; exact h1))]
      exact z
  · by_cases z : a = p
    · subst z
      change (if a = a then H a else B.H a) = some o at q
      rwa [if_pos rfl] at q
    · change (if a = p then H p else B.H a) = some o at q
      rw [if_neg z] at q
      exact S'.go.ext a o q n
  · by_cases z : a = p
    · subst z
      change (if a = a then H a else B.H a) ≠ none at q
      rwa [if_pos rfl] at q
    · change (if a = p then H p else B.H a) ≠ none at q
      rw [if_neg z] at q
      exact S'.go.th a q
  · have z : a ≠ p := fun z => h (by rw [← z]; exact q)
    rcases S'.go.wn a q with y | y
    · exact .inl y
    · refine .inr ?_
      show (if a = p then H p else B.H a) = none
      rw [if_neg z]
      exact y
  · obtain ⟨q, o, a1, a2, a3, a4, a5, a6⟩ := S.ow i b e
    obtain ⟨z, a2⟩ := rid_le a2
    refine ⟨q, o, a1, a2, a3, a4, a5, ?_⟩
    show (if q = p then H p else B.H q) = none
    rw [if_neg z]
    exact a6
theorem Stt.under {H Hs : Hp} {s : W.S} {p : Addr} (S : Stt c W (plus B p H) σ H ρ s Hs) (hp : H p ≠ none) (g : Go W B.s B.Hs B.H s Hs (Dv.rid p H)) : Stt c W B σ (Dv.rid p H) ρ s Hs := by
  refine ⟨g, S.len, S.dat, fun i b e => ?_, S.ap⟩
  obtain ⟨q, o, a1, a2, a3, a4, a5, a6⟩ := S.ow i b e
  change (if q = p then H p else B.H q) = none at a6
  by_cases z : q = p
  · rw [if_pos z] at a6
    exact absurd a6 hp
  · rw [if_neg z] at a6
    exact ⟨q, o, a1, by rw [rid_ne z]; exact a2, a3, a4, a5, a6⟩

/-! ### the list that grows -/
structure Gr (c : Cn) (W : Wld) (s1 : W.S) (Hs1 H1 : Hp) (p : Addr) (s : W.S) (Hs H : Hp) (acc : List D) : Prop where
  go : Go W s1 Hs1 H1 s Hs (rid p H)
  has : ∃ vacc, H p = some (.lst vacc) ∧ RpA c Hs vacc acc
  free : Hs p = none
  nown : ¬ W.own s p
variable {s1 s s' : W.S} {Hs1 H1 Hs H Hs' H' : Hp} {p : Addr} {acc : List D}
theorem Gr.ne (g : Gr c W s1 Hs1 H1 p s Hs H acc) : H p ≠ none := by
  obtain ⟨v, e, _⟩ := g.has
  rw [e]
  exact fun z => nomatch z
theorem Gr.sub (g : Gr c W s1 Hs1 H1 p s Hs H acc) : Same Hs H := same_unrid g.go.sub
theorem Gr.rel (g : Gr c W s1 Hs1 H1 p s Hs H acc) : W.rel s Hs H := rel_unrid g.go.rel g.nown
theorem Gr.step (g : Gr c W s1 Hs1 H1 p s Hs H acc) (k : Go W s Hs H s' Hs' H') : Gr c W s1 Hs1 H1 p s' Hs' H' acc := by
  obtain ⟨k1, k2, k3, k4⟩ := k.rid g.free g.ne g.nown
  obtain ⟨v, e, r⟩ := g.has
  exact ⟨g.go.trans k1, ⟨v, by rw [k4, e], r.same k.fz⟩, k2, k3⟩
theorem Gr.put {d : D} {v : V} (g : Gr c W s1 Hs1 H1 p s Hs H acc) (r : Rp c Hs v d) : ∃ vacc, H p = some (.lst vacc) ∧ vacc.length = acc.length ∧ Gr c W s1 Hs1 H1 p s Hs (upd H p (.lst (vacc ++ [v]))) (acc ++ [d]) := by
  obtain ⟨vacc, e, ra⟩ := g.has
  exact ⟨vacc, e, ra.length, by rw [rid_upd]; exact g.go, ⟨_, upd_same, ra.append (.one r)⟩, g.free, g.nown⟩
/-- going on from a later point -/
theorem Gr.from {s2 : W.S} {Hs2 H2 : Hp} (g : Gr c W s1 Hs1 H1 p s Hs H acc) : Gr c W s Hs (rid p H) p s Hs H acc := ⟨Go.refl g.go.sub g.go.rel, g.has, g.free, g.nown⟩
/-- the turns of a comprehension, the list in hand -/
def lcGo2 {S : Type} (body : D → List D → S → (List D → S → Prop) → Prop) : List D → List D → S → (List D → S → Prop) → Prop
  | [], acc, s, Q => Q acc s
  | x :: xs, acc, s, Q => body x acc s fun acc' s' => lcGo2 body xs acc' s' Q
def lcIn (gt1 : TDG) (tt1 : TDB W) (te : TD W) (ρ : Env) : D → List D → W.S → (List D → W.S → Prop) → Prop := fun y acc s K => gt1 y ρ fun ρ3 => tt1 ρ3 s fun b s4 => if b = true then te ρ3 s4 fun d s5 => acc.length < sizeLine ∧ K (acc ++ [d]) s5 else K acc s4
def lcOut (gt : TDG) (tt : TDB W) (ti1 : TDI W) (gt1 : TDG) (tt1 : TDB W) (te : TD W) (vs1 : List Nat) (ρ : Env) : D → List D → W.S → (List D → W.S → Prop) → Prop := fun x acc s K => gt x ρ fun ρ2 => tt ρ2 s fun b s2 =>
  if b = true then ti1 ρ2 s2 fun ys s3 => lcGo2 (lcIn gt1 tt1 te (wipeD ρ2 vs1)) ys acc s3 K else K acc s2
def dLc2 (ti : TDI W) (gt : TDG) (tt : TDB W) (ti1 : TDI W) (gt1 : TDG) (tt1 : TDB W) (te : TD W) (vs vs1 : List Nat) : TD W := fun ρ s Q => ti ρ s fun xs s1 => lcGo2 (lcOut gt tt ti1 gt1 tt1 te vs1 (wipeD ρ vs)) xs [] s1 fun ys s2 => ys.length ≤ sizeLine ∧ Q (.lst ys) s2
theorem wipe_wipe {vs : List Nat} : ∀ (us : List Nat) (τ : L2.St), (∀ i ∈ us, i ∈ vs) → wipe (wipe τ us) vs = wipe τ vs
  | [], τ, _ => rfl
  | j :: js, τ, hj => by
    show wipe ((wipe τ js).set j none) vs = wipe τ vs
    rw [wipe_set (hj j (by simp)), wipe_wipe js τ fun i hi => hj i (by simp [hi])]
def PGt (c : Cn) (W : Wld) (is : List Nat) (g : TG) (gt : TDG) : Prop := ∀ (B : Bs W) σ H ρ s Hs x d R Q, Stt c W B σ H ρ s Hs → Rp c Hs x d → gt d ρ R → (∀ ρ' σ', R ρ' → Stt c W B σ' H ρ' s Hs → (∀ vs, (∀ i ∈ is, i ∈ vs) → wipe σ' vs = wipe σ vs) → Q σ' H) → g x σ H Q
theorem lc2_turns {X : Cx} {ti ti1 : TDI W} {g g1 : TG} {gt gt1 : TDG} {tt tt1 : TDB W} {te : TD W} {is is1 vs vs1 : List Nat} {σ : L2.St} {H : Hp} {Q : VK} (hv : ∀ i ∈ is, i ∈ vs) (hv1 : ∀ i ∈ is1, i ∈ vs1)
    (hg : PGt (cn X) W is g gt) (hg1 : PGt (cn X) W is1 g1 gt1)
    (h : liftE (cn X) W B (dLc2 ti gt tt ti1 gt1 tt1 te vs vs1) σ H Q) : tLc2 (liftI (cn X) W B ti) g (liftT (cn X) W B tt) (liftI (cn X) W B ti1) g1 (liftT (cn X) W B tt1) (liftE (cn X) W B te) vs vs1 σ H Q := by
  obtain ⟨Hs, ρ, s, R, S, h1, k⟩ := h
  refine ⟨Hs, ρ, s, _, S, h1, fun xs s1 Hs1 H1 J hL g1' wk => ?_⟩
  intro p hp
  have S1 := S.step g1'
  have hps : Hs1 p = none := g1'.sub.free hp
  have hpw : ¬ W.own s1 p := fun z => W.there g1'.rel z hp
  have hB : B.H p = none := free_of S1.go.th hp
  refine ⟨fun i m H' => m = xs.length - i ∧ i ≤ xs.length ∧ ∃ Hs' s' acc, Gr (cn X) W s1 Hs1 H1 p s' Hs' H' acc ∧ lcGo2 (lcOut gt tt ti1 gt1 tt1 te vs1 (wipeD ρ vs)) (xs.drop i) acc s' (fun ys s2 => ys.length ≤ sizeLine ∧ R (.lst ys) s2),
    ⟨_, rfl, Nat.zero_le _, Hs1, s1, [], ⟨by rw [rid_upd, rid_free hp]; exact Go.refl g1'.sub g1'.rel, ⟨[], upd_same, .nil⟩, hps, hpw⟩, hL⟩, ?_⟩
  rintro i m H2 ⟨rfl, hi, Hs2, s2, acc, G2, hgo⟩
  by_cases hlt : i < xs.length
  · have hx : xs[i]? = some xs[i] := List.getElem?_eq_getElem hlt
    rw [List.drop_eq_getElem_cons hlt] at hgo
    refine .inr ⟨wk.go i Hs2 H2 G2.go.fz G2.sub hlt, fun H' => i + 1 ≤ xs.length ∧ ∃ Hs' s' acc, Gr (cn X) W s1 Hs1 H1 p s' Hs' H' acc ∧ lcGo2 (lcOut gt tt ti1 gt1 tt1 te vs1 (wipeD ρ vs)) (xs.drop (i + 1)) acc s' (fun ys s2 => ys.length ≤ sizeLine ∧ R (.lst ys) s2),
      fun H' h' => ⟨xs.length - (i + 1), by omega, rfl, h'⟩, fun x H3 hy => ?_⟩
    obtain ⟨Hs3, ly, rx⟩ := wk.yld i _ Hs2 H2 x H3 G2.go.fz G2.sub hx hy
    have G3 := G2.step (ly.go G2.rel)
    have S3 := (S1.step G3.go).wipe vs
    refine hg (plus B p H3) (wipe σ vs) H3 (wipeD ρ vs) s2 Hs3 x _ _ _ (S3.over G3.free G3.nown hB) rx hgo fun ρ4 σ4 hR4 S4' w4 => ?_
    have S4 := S4'.under G3.ne (S1.go.trans G3.go)
    refine ⟨by rw [w4 vs hv, wipe_wipe vs σ fun i hi => hi], Hs3, ρ4, s2, _, S4.unrid G3.nown, hR4, fun b s5 Hs5 H5 hR5 g5 => ?_⟩
    have G5 := G3.step g5
    have S5 := S4.step (g5.rid G3.free G3.ne G3.nown).1
    cases b with
    | false =>
      rw [if_neg Bool.false_ne_true] at hR5
      show if false = true then _ else _
      rw [if_neg Bool.false_ne_true]
      exact ⟨hlt, Hs5, s5, acc, G5, hR5⟩
    | true =>
      rw [if_pos rfl] at hR5
      show if true = true then _ else _
      rw [if_pos rfl]
      refine ⟨Hs5, ρ4, s5, _, S5.unrid G5.nown, hR5, fun ys s6 Hs6 H6 J1 hR6 g6 wk1 => ?_⟩
      have G6 := G5.step g6
      have S6 := S5.step (g6.rid G5.free G5.ne G5.nown).1
      have G6' := Gr.from (s2 := s6) (Hs2 := Hs6) (H2 := H6) G6
      refine ⟨fun j k H' => k = ys.length - j ∧ j ≤ ys.length ∧ ∃ Hs' s' acc, Gr (cn X) W s6 Hs6 (Dv.rid p H6) p s' Hs' H' acc ∧ lcGo2 (lcIn gt1 tt1 te (wipeD ρ4 vs1)) (ys.drop j) acc s' (fun acc' s' => lcGo2 (lcOut gt tt ti1 gt1 tt1 te vs1 (wipeD ρ vs)) (xs.drop (i + 1)) acc' s' (fun ys s2 => ys.length ≤ sizeLine ∧ R (.lst ys) s2)),
        ⟨_, rfl, Nat.zero_le _, Hs6, s6, acc, G6', hR6⟩, ?_⟩
      rintro j kk H7 ⟨rfl, hj, Hs7, s7, acc7, G7, hgo7⟩
      by_cases hlt1 : j < ys.length
      · have hx1 : ys[j]? = some ys[j] := List.getElem?_eq_getElem hlt1
        rw [List.drop_eq_getElem_cons hlt1] at hgo7
        refine .inr ⟨wk1.go j Hs7 H7 G7.go.fz G7.sub hlt1, fun H' => j + 1 ≤ ys.length ∧ ∃ Hs' s' acc, Gr (cn X) W s6 Hs6 (Dv.rid p H6) p s' Hs' H' acc ∧ lcGo2 (lcIn gt1 tt1 te (wipeD ρ4 vs1)) (ys.drop (j + 1)) acc s' (fun acc' s' => lcGo2 (lcOut gt tt ti1 gt1 tt1 te vs1 (wipeD ρ vs)) (xs.drop (i + 1)) acc' s' (fun ys s2 => ys.length ≤ sizeLine ∧ R (.lst ys) s2)),
          fun H' h' => ⟨ys.length - (j + 1), by omega, rfl, h'⟩, fun x1 H8 hy1 => ?_⟩
        obtain ⟨Hs8, ly1, rx1⟩ := wk1.yld j _ Hs7 H7 x1 H8 G7.go.fz G7.sub hx1 hy1
        have G8 := G7.step (ly1.go G7.rel)
        have S8 := (S6.step G8.go).wipe vs1
        refine hg1 (plus B p H8) (wipe σ4 vs1) H8 (wipeD ρ4 vs1) s7 Hs8 x1 _ _ _ (S8.over G8.free G8.nown hB) rx1 hgo7 fun ρ9 σ9 hR9 S9' w9 => ?_
        have S9 := S9'.under G8.ne (S6.go.trans G8.go)
        refine ⟨by rw [w9 vs1 hv1, wipe_wipe vs1 σ4 fun i hi => hi], Hs8, ρ9, s7, _, S9.unrid G8.nown, hR9, fun b s10 Hs10 H10 hR10 g10 => ?_⟩
        have G10 := G8.step g10
        have S10 := S9.step (g10.rid G8.free G8.ne G8.nown).1
        cases b with
        | false =>
          rw [if_neg Bool.false_ne_true] at hR10
          show if false = true then _ else _
          rw [if_neg Bool.false_ne_true]
          exact ⟨hlt1, Hs10, s10, acc7, G10, hR10⟩
        | true =>
          rw [if_pos rfl] at hR10
          show if true = true then _ else _
          rw [if_pos rfl]
          refine ⟨Hs10, ρ9, s10, _, S10.unrid G10.nown, hR10, fun d s11 Hs11 H11 v ⟨hl11, hR11⟩ g11 rv => ?_⟩
          obtain ⟨vacc, e1, e2, G11⟩ := (G10.step g11).put rv
          exact ⟨vacc, e1, by omega, hlt1, Hs11, s11, _, G11, hR11⟩
      · have e : j = ys.length := by omega
        subst e
        refine .inl ⟨wk1.stop Hs7 H7 G7.go.fz G7.sub, hlt, Hs7, s7, acc7, ⟨G6.go.trans G7.go, G7.has, G7.free, G7.nown⟩, ?_⟩
        rw [List.drop_length] at hgo7
        exact hgo7
  · have e : i = xs.length := by omega
    subst e
    refine .inl ⟨wk.stop Hs2 H2 G2.go.fz G2.sub, ?_⟩
    rw [List.drop_length] at hgo
    obtain ⟨hz, hq⟩ := hgo
    obtain ⟨vacc, e1, ra⟩ := G2.has
    refine k (.lst acc) s2 (upd Hs2 p (.lst vacc)) H2 _ hq (g1'.trans ?_) (.lstN G2.free hz ra)
    refine ⟨G2.go.fz.trans (Same.updR G2.free), fun a u q => ?_, fun a q => ?_, fun a o q n => (rid_le (G2.go.ext a o q n)).2, fun a q => ?_, G2.go.wn, W.keep G2.rel (Same.updR G2.free) (upd_keep G2.nown) fun _ _ => rfl⟩
    · by_cases z : a = p
      · rw [z, upd_same] at q
        rw [z, e1]
        exact q
      · rw [upd_ne z] at q
        exact G2.sub a u q
    · by_cases z : a = p
      · rw [z]; exact .inr hp
      · rw [upd_ne z] at q
        exact G2.go.new a q
    · obtain ⟨o, e⟩ := ne_none (G2.go.th a q)
      rw [(rid_le e).2]
      exact fun z => nomatch z
end
section
variable {W : Wld} {B : Bs W} {X : Cx}
/-- a target's reading that serves in every block -/
def gU (c : Cn) (W : Wld) (is : List Nat) (gt : TDG) : TG := fun x σ H Q => ∃ (B : Bs W) (ρ : Env) (s : W.S) (Hs : Hp) (d : D) (R : Env → Prop), Stt c W B σ H ρ s Hs ∧ Rp c Hs x d ∧ gt d ρ R ∧
      ∀ ρ' σ', R ρ' → Stt c W B σ' H ρ' s Hs → (∀ vs, (∀ i ∈ is, i ∈ vs) → wipe σ' vs = wipe σ vs) → Q σ' H
theorem gU_pg {Y : Cx} {tg : Expr} {is : List Nat} {gt : TDG} (h : DG Y tg is gt) : PG Y tg (gU (cn Y) W is gt) := by
  obtain ⟨g, pg, l⟩ := h
  exact ⟨fun pins s1 σ H1 v u Q I1 r ⟨B, ρ, st, Hs, d, R, S, rx, h, k⟩ => pg.run pins s1 σ H1 v u Q I1 r (l W B σ H1 ρ st Hs v d R Q S rx h k)⟩
theorem gU_gt {c : Cn} {is : List Nat} {gt : TDG} : PGt c W is (gU c W is gt) gt := fun B σ H ρ s Hs x d R Q S r h k => ⟨B, ρ, s, Hs, d, R, S, r, h, k⟩
/-- [elt for tg in iter if .. for tg1 in iter1 if ..] -/
theorem de_lc2 {elt tg iter tg1 iter1 : Expr} {ifs ifs1 : List Expr} {scope : Scope} {own : List (Str × Nat)} {vs1 : List Nat} {pos : Pos} {ti ti1 : TDI W} {is is1 : List Nat} {gt gt1 : TDG} {tt tt1 : TDB W} {te : TD W} (hc : X.calm = true) (hN : X.N.Nodup) (hi : DI W B X tg iter ti) (ok : BlkOk X.N X.env.scope scope own)
    (hg : ∀ (s : Shared) (H : Hp) (C : Addr) (cl : List (Str × Addr)) (fp : List Addr), DG (X.blk s H scope (compEnvC scope cl C X.env) fp) tg is gt) (ht : ∀ (s : Shared) (H : Hp) (C : Addr) (cl : List (Str × Addr)) (fp : List Addr), DTs W B (X.blk s H scope (compEnvC scope cl C X.env) fp) ifs tt)
    (hi1 : ∀ (s : Shared) (H : Hp) (C : Addr) (cl : List (Str × Addr)) (fp : List Addr), DI W B (X.blk s H scope (compEnvC scope cl C X.env) fp) tg1 iter1 ti1)
    (hg1 : ∀ (s : Shared) (H : Hp) (C : Addr) (cl : List (Str × Addr)) (fp : List Addr), DG (X.blk s H scope (compEnvC scope cl C X.env) fp) tg1 is1 gt1) (ht1 : ∀ (s : Shared) (H : Hp) (C : Addr) (cl : List (Str × Addr)) (fp : List Addr), DTs W B (X.blk s H scope (compEnvC scope cl C X.env) fp) ifs1 tt1)
    (he : ∀ (s : Shared) (H : Hp) (C : Addr) (cl : List (Str × Addr)) (fp : List Addr), DE W B (X.blk s H scope (compEnvC scope cl C X.env) fp) elt te) (hv : ∀ i ∈ is, i ∈ own.map (·.2) := by decide) (hv1 : ∀ i ∈ is1, i ∈ vs1 := by decide) (hv2 : ∀ i ∈ vs1, i ∈ own.map (·.2) := by decide)
    (hs : ∀ x, foldedSetIterable iter X.env x = pure x := by intro _; rfl) (hs1 : ∀ env x, foldedSetIterable iter1 env x = pure x := by intro _ _; rfl) :
    DE W B X (.ListComp elt [⟨tg, iter, ifs, 0⟩, ⟨tg1, iter1, ifs1, 0⟩] scope pos) (dLc2 ti gt tt ti1 gt1 tt1 te (own.map (·.2)) vs1) :=
  ⟨pe_imp (pe_lc2 (g := gU (cn X) W is gt) (g1 := gU (cn X) W is1 gt1) hc hN hi.run ok hv2 (fun s H C cl fp => gU_pg (hg s H C cl fp)) (fun s H C cl fp => (ht s H C cl fp).run) (fun s H C cl fp => (hi1 s H C cl fp).run) (fun s H C cl fp => gU_pg (hg1 s H C cl fp)) (fun s H C cl fp => (ht1 s H C cl fp).run) (fun s H C cl fp => (he s H C cl fp).run) hs hs1)
    fun σ H Q h => lc2_turns (X := X) hv hv1 gU_gt gU_gt h⟩
/-- name = [..] on one line -/
theorem ds_setLc {i : Nat} {y : Str} {py : Pos} {elt tg iter : Expr} {ifs : List Expr} {scope : Scope} {own : List (Str × Nat)} {pos spos : Pos} {ti : TDI W} {is : List Nat} {gt : TDG} {tt : TDB W} {te : TD W} (hc : X.calm = true) (hN : X.N.Nodup) (hy : X.N[i]? = some y) (hyl : X.env.scope.names.lookup y = some .local)
    (hsw : swapsWith (.ListComp elt [⟨tg, iter, ifs, 0⟩] scope pos) (some (.Name y py)) spos.line X.env = pure true) (hi : DI W B X tg iter ti) (ok : BlkOk X.N X.env.scope scope own)
    (hg : ∀ (s : Shared) (H : Hp) (C : Addr) (cl : List (Str × Addr)) (fp : List Addr), DG (X.blk s H scope (compEnvC scope cl C X.env) fp) tg is gt) (ht : ∀ (s : Shared) (H : Hp) (C : Addr) (cl : List (Str × Addr)) (fp : List Addr), DTs W B (X.blk s H scope (compEnvC scope cl C X.env) fp) ifs tt)
    (he : ∀ (s : Shared) (H : Hp) (C : Addr) (cl : List (Str × Addr)) (fp : List Addr), DE W B (X.blk s H scope (compEnvC scope cl C X.env) fp) elt te) (hv : ∀ i ∈ is, i ∈ own.map (·.2) := by decide) (hs : ∀ x, foldedSetIterable iter X.env x = pure x := by intro _; rfl) :
    DS W B X (.Assign [.Name y py] (.ListComp elt [⟨tg, iter, ifs, 0⟩] scope pos) spos) (dSet (dLc ti gt tt te (own.map (·.2))) (gtName i)) :=
  ⟨ps_imp (ps_setLc (g := gU (cn X) W is gt) hc hN hy hyl hsw hi.run ok (fun s H C cl fp => gU_pg (W := W) (hg s H C cl fp)) (fun s H C cl fp => (ht s H C cl fp).run) (fun s H C cl fp => (he s H C cl fp).run) hs) fun D σ H ⟨Hs, ρ, s, E, S, h1, k⟩ =>
    lc_turns (X := X) (tg := tg) (is := is) (B := B) hv gU_gt ⟨Hs, ρ, s, _, S, h1, fun d s1 Hs1 H1 v hR g r => k.nx _ s1 Hs1 _ H1 hR g.fz ((S.step g).set r)⟩⟩
end
end Dv

set_option Elab.async false
set_option linter.all false
set_option maxRecDepth 100000
/-! a def that is called by its name. -/
namespace Dv
open PySem L2 PyProof.Rows
/-- the def x of the module keeps the promise sp -/
structure Cal (P : Program) (w : World) (K : PySem.W.Frag) (mg : Str → Option Value) (base : Heap) (x : Str) (k : Nat) (ps : List Str) (sp : Sp) : Prop where
  ex : ∃ f fd, FnOk P w K mg base CX0 k f fd ps sp ∧ mg x = some (.ref f) ∧ PySem.W.keepIn K (.ref f) = true ∧ Binds K fd ps []
/-- the def x stands in the text -/
structure Def (K : PySem.W.Frag) (mg : Str → Option Value) (x : Str) (st : Stmt) (ps : List Str) : Prop where
  ex : ∃ f fd, Fun K x x st f fd ∧ mg x = some (.ref f) ∧ Binds K fd ps []
section
variable {P : Program} {w : World} {K : PySem.W.Frag} {mg : Str → Option Value} {base : Heap} {x : Str} {ps : List Str} {st : Stmt}
/-- a def of the text keeps what its body gives -/
theorem Def.cal {k : Nat} {sp : Sp} (D : Def K mg x st ps) (h : ∀ f fd, Fun K x x st f fd → FnOk P w K mg base CX0 k f fd ps sp) : Cal P w K mg base x k ps sp := by
  obtain ⟨f, fd, F, m, b⟩ := D.ex
  exact ⟨f, fd, h f fd F, m, F.kp, b⟩
theorem Cal.mono {j k : Nat} {sp : Sp} (C : Cal P w K mg base x j ps sp) (h : j ≤ k) : Cal P w K mg base x k ps sp := by
  obtain ⟨f, fd, F, r⟩ := C.ex
  exact ⟨f, fd, F.mono h, r⟩
theorem Cal.imp {k : Nat} {sp sp' : Sp} (C : Cal P w K mg base x k ps sp) (h : ∀ vs H Q E, sp' vs H Q E → sp vs H Q E) : Cal P w K mg base x k ps sp' := by
  obtain ⟨f, fd, F, r⟩ := C.ex
  exact ⟨f, fd, F.imp h, r⟩
/-- a promise that is never claimed -/
theorem Def.never {k n : Nat} {ok : PL} {c : Cn} (D : Def K mg x st ps) (h : ∀ ds R, ok ds R → False) : Cal P w K mg base x k ps (spP c n ok) :=
  D.cal fun f fd F => ⟨fun vs H Q E ⟨_, _, _, _, _, _, z, _⟩ => (h _ _ z).elim, fun A outer s H args us vs Q E _ _ _ _ ⟨_, _, _, _, _, _, z, _⟩ => (h _ _ z).elim⟩
theorem Def.neverW {k n : Nat} {W : Wld} {ok : OkD W} {c : Cn} (D : Def K mg x st ps) (h : ∀ ds s R, ok ds s R → False) : Cal P w K mg base x k ps (spD c W n ok) :=
  D.cal fun f fd F => ⟨fun vs H Q E ⟨_, _, _, _, _, _, _, _, z, _⟩ => (h _ _ _ z).elim, fun A outer s H args us vs Q E _ _ _ _ ⟨_, _, _, _, _, _, _, _, z, _⟩ => (h _ _ _ z).elim⟩
theorem Cal.toW {k n : Nat} {ok : PL} {c : Cn} (W : Wld) (C : Cal P w K mg base x k ps (spP c n ok)) : Cal P w K mg base x k ps (spD c W n (lfP W ok)) := by
  obtain ⟨f, fd, F, r⟩ := C.ex
  exact ⟨f, fd, FnOk.toW W F, r⟩
end
section
variable {W : Wld} {B : Bs W} {X : Cx} {e : Expr} {es : List Expr} {t : TDA W} {pos p' : Pos} {x : Str} {k n : Nat} {ps : List Str}
theorem de_fn {ok : OkD W} (C : Cal X.prog X.w X.K X.mg X.base x k ps (spD (cn X) W n ok)) (hr : Room k X.A) (hg : Gl X x) (ha : DA W B X (e :: es) t) (hdb : (x == ("__debug__" : Str)) = false := by decide)
    (he : starEach (e :: es) X.env = (false, eval e X.env) :: starEach es X.env := by rfl) (hpl : (backTo pos (starEach es X.env)).any (·.1) = false := by rfl) : DE W B X (.Call (.Name x p') (e :: es) [] pos) (dCall n ok t) := by
  obtain ⟨f, fd, F, m, kp, b⟩ := C.ex
  exact de_call F hr hg m kp b ha hdb he hpl
/-- a call of a plain def -/
theorem de_fnP {ok : PL} (C : Cal X.prog X.w X.K X.mg X.base x k ps (spP (cn X) n ok)) (hr : Room k X.A) (hg : Gl X x) (ha : DA W B X (e :: es) t) (hdb : (x == ("__debug__" : Str)) = false := by decide)
    (he : starEach (e :: es) X.env = (false, eval e X.env) :: starEach es X.env := by rfl) (hpl : (backTo pos (starEach es X.env)).any (·.1) = false := by rfl) : DE W B X (.Call (.Name x p') (e :: es) [] pos) (dCall n (lfP W ok) t) :=
  de_fn (C.toW W) hr hg ha hdb he hpl
end
section
variable {P : Program} {w : World} {K : PySem.W.Frag} {mg : Str → Option Value} {base : Heap} {x : Str} {ps : List Str} {st : Stmt}
/-- THE RULE for a plain def -/
theorem Def.okP {N : List Str} {k n : Nat} {ok : PL} (D : Def K mg x st ps) (S : FnScope N ps (defScope st)) (hn : ps.length = n)
    (hbody : ∀ (f : Addr) (cdv : Value) (A : Around) (outer : List PySem.Env) (s : Shared) (H : Hp) (E : XK) (B : Bs W0), Room k (A.deeper (envOfC x (defScope st) s.heap.objs.size f cdv)) →
      ∃ t, DSs W0 B (cxOf CX0 P w K mg base N x (defScope st) f cdv A outer s H E).nox (defBody st) t ∧
        ∀ ds R, ds.length = n → ok ds R → t { nx := fun _ _ => R .non, rt := fun d _ => R d } (ds.map .d ++ List.replicate (N.length - n) .un) ()) : Cal P w K mg base x (k + 1) ps (spP ⟨P, w, K⟩ n ok) :=
  D.cal fun f fd F => FnOk.toP (okD F S hn fun cdv A outer s H E B hr => by
    obtain ⟨t, h1, h2⟩ := hbody f cdv A outer s H E B hr
    exact ⟨t, h1, fun ds s R hl ho => h2 ds _ hl ho⟩)
/-- THE RULE for a def over a world -/
theorem Def.okW {W : Wld} {N : List Str} {k n : Nat} {ok : OkD W} (D : Def K mg x st ps) (S : FnScope N ps (defScope st)) (hn : ps.length = n)
    (hbody : ∀ (f : Addr) (cdv : Value) (A : Around) (outer : List PySem.Env) (s : Shared) (H : Hp) (E : XK) (B : Bs W), Room k (A.deeper (envOfC x (defScope st) s.heap.objs.size f cdv)) →
      ∃ t, DSs W B (cxOf CX0 P w K mg base N x (defScope st) f cdv A outer s H E).nox (defBody st) t ∧
        ∀ ds s R, ds.length = n → ok ds s R → t { nx := fun _ s' => R .non s', rt := R } (ds.map .d ++ List.replicate (N.length - n) .un) s) : Cal P w K mg base x (k + 1) ps (spD ⟨P, w, K⟩ W n ok) :=
  D.cal fun f fd F => okD F S hn fun cdv A outer s H E B hr => hbody f cdv A outer s H E B hr
end
end Dv

set_option Elab.async false
set_option linter.all false
set_option maxRecDepth 100000
/-! room in numbers; turns over encoded lists. -/
namespace Dv
open PySem L2
theorem _root_.L2.Room.u65 {k : Nat} {A : Around} (r : Room k A) : A.units + 65 < cLine := by have := r.un; omega
theorem _root_.L2.Room.u66 {k : Nat} {A : Around} (r : Room k A) : A.units + 66 < cLine := by have := r.un; omega
theorem _root_.L2.Room.u70 {k : Nat} {A : Around} (r : Room k A) : A.units + 70 < cLine := by have := r.un; omega
theorem CallD.imp {X : Cx} {f : Value} {p p' : PL} (h : CallD X f p) (k : ∀ ds R, p' ds R → p ds R) : CallD X f p' := by
  obtain ⟨r, hr, l⟩ := h
  exact ⟨r, hr, fun Hs H vs ds R Q hs ra hp => l Hs H vs ds R Q hs ra (k ds R hp)⟩
theorem cd_intI {X : Cx} : CallD X (.type "int") (fun ds R => ∃ i, ds = [.int i] ∧ R (.int i)) := cd_int.imp fun _ _ h => .inl h
section
variable {S α : Type} {body : D → S → (Option D → S → Prop) → Prop} {g : α → D}
theorem lc_mapg (f : α → D) {xs : List α} {acc : List D} {s : S} {Q : List D → S → Prop} (h : ∀ x ∈ xs, ∀ K : Option D → S → Prop, K (some (f x)) s → body (g x) s K) (q : Q (acc ++ xs.map f) s) : lcGo body (xs.map g) acc s Q := by
  induction xs generalizing acc with
  | nil => show Q acc s; simpa using q
  | cons x xs ih => exact h x (by simp) _ (ih (fun y hy => h y (by simp [hy])) (by simpa using q))
theorem lc_fmg (f : α → Option D) {xs : List α} {acc : List D} {s : S} {Q : List D → S → Prop} (h : ∀ x ∈ xs, ∀ K : Option D → S → Prop, K (f x) s → body (g x) s K) (q : Q (acc ++ xs.filterMap f) s) : lcGo body (xs.map g) acc s Q := by
  induction xs generalizing acc with
  | nil => show Q acc s; simpa using q
  | cons x xs ih =>
    refine h x (by simp) _ (ih (fun y hy => h y (by simp [hy])) ?_)
    rw [List.filterMap_cons] at q
    cases e : f x with
    | none => rw [e] at q; simpa using q
    | some z => rw [e] at q; simpa using q
/-- the items kept -/
theorem lc_filter (p : α → Bool) (f : α → D) {xs : List α} {acc : List D} {s : S} {Q : List D → S → Prop} (h : ∀ x ∈ xs, ∀ K : Option D → S → Prop, K (if p x then some (f x) else none) s → body (g x) s K) (q : Q (acc ++ (xs.filter p).map f) s) : lcGo body (xs.map g) acc s Q := by
  refine lc_fmg (fun x => if p x then some (f x) else none) h ?_
  have : xs.filterMap (fun x => if p x = true then some (f x) else none) = (xs.filter p).map f := by
    clear h q
    induction xs with
    | nil => rfl
    | cons x xs ih =>
      rw [List.filterMap_cons, List.filter_cons]
      cases p x <;> simp [ih]
  rw [this]
  exact q
end
theorem lc_filt {S : Type} {body : D → S → (Option D → S → Prop) → Prop} (p : D → Bool) {xs acc : List D} {s : S} {Q : List D → S → Prop} (h : ∀ x ∈ xs, ∀ K : Option D → S → Prop, K (if p x then some x else none) s → body x s K) (q : Q (acc ++ xs.filter p) s) : lcGo body xs acc s Q := by
  have := lc_filter (g := id) p id (xs := xs) (acc := acc) (s := s) (Q := Q) (body := body) h (by rw [List.map_id]; exact q)
  rwa [List.map_id] at this
/-- items of a kind, which ones is open -/
theorem lc_any {S α : Type} {g : α → D} {body : D → S → (Option D → S → Prop) → Prop} {β : Type} (f : β → D) (Pb : β → Prop) {xs : List α} {acc : List D} {s : S} {Q : List D → S → Prop} (h : ∀ x ∈ xs, ∀ K : Option D → S → Prop, (∀ b, Pb b → K (some (f b)) s) → body (g x) s K)
    (q : ∀ ys : List β, ys.length = xs.length → (∀ y ∈ ys, Pb y) → Q (acc ++ ys.map f) s) : lcGo body (xs.map g) acc s Q := by
  induction xs generalizing acc with
  | nil => show Q acc s; simpa using q [] rfl (fun _ z => by cases z)
  | cons x xs ih =>
    refine h x (by simp) _ fun b hb => ih (fun y hy => h y (by simp [hy])) fun ys hl hy => ?_
    have := q (b :: ys) (by simp [hl]) (fun y hy' => by
      rcases List.mem_cons.mp hy' with z | z
      · rw [z]; exact hb
      · exact hy y z)
    simpa using this
theorem rangeD_map (lo : Int) (n : Nat) : rangeD lo n = (List.range n).map fun k => .int (lo + (k : Nat)) := rfl
theorem shp_raw {n : Nat} {d : D} (h : shp n d = true) : ∀ v, d ≠ .raw v := fun v e => by
  subst e
  cases n <;> simp [shp] at h
section
variable {W : Wld} {α : Type} {g : α → D} {body : D → TDS W} {E : EndsD W}
/-- a loop by an invariant of what has been walked -/
theorem for_mapg (I : List α → Env → W.S → Prop) : ∀ {zs pre : List α} {ρ : Env} {s : W.S}, I pre ρ s →
    (∀ qs z rs, pre ++ zs = qs ++ z :: rs → ∀ ρ s, I qs ρ s → ∀ K : Env → W.S → Prop, (∀ ρ' s', I (qs ++ [z]) ρ' s' → K ρ' s') → body (g z) { nx := K, rt := E.rt, bk := E.nx, ct := K } ρ s) →
    (∀ ρ s, I (pre ++ zs) ρ s → E.nx ρ s) → forGo body E (zs.map g) ρ s
  | [], pre, ρ, s, h, _, q => q ρ s (by simpa using h)
  | z :: zs, pre, ρ, s, h, st, q => st pre z zs rfl ρ s h _ fun ρ' s' h' =>
    for_mapg I (zs := zs) (pre := pre ++ [z]) h' (fun qs y rs e => st qs y rs (by simpa using e)) (fun ρ s hh => q ρ s (by simpa using hh))
end
theorem for_list {W : Wld} {body : D → TDS W} {E : EndsD W} (I : List D → Env → W.S → Prop) {zs : List D} {ρ : Env} {s : W.S} (h : I [] ρ s)
    (st : ∀ qs z rs, zs = qs ++ z :: rs → ∀ ρ s, I qs ρ s → ∀ K : Env → W.S → Prop, (∀ ρ' s', I (qs ++ [z]) ρ' s' → K ρ' s') → body z { nx := K, rt := E.rt, bk := E.nx, ct := K } ρ s)
    (q : ∀ ρ s, I zs ρ s → E.nx ρ s) : forGo body E zs ρ s := by
  have := for_mapg (g := id) (body := body) (E := E) (zs := zs) (pre := []) I h (fun qs z rs e => st qs z rs (by simpa using e)) (fun ρ s hh => q ρ s (by simpa using hh))
  rwa [List.map_id] at this
theorem itemsD_tup (xs : List D) : itemsD (.tup xs) = some xs := rfl
theorem itemsD_lst (xs : List D) : itemsD (.lst xs) = some xs := rfl
theorem itemsD_dic (kvs : List (D × D)) : itemsD (.dic kvs) = some (kvs.map (·.1)) := rfl
section
variable {S α : Type} {body : D → List D → S → (List D → S → Prop) → Prop} {g : α → D}
/-- turns that each put some items in -/
theorem lc2_flat (f : α → List D) : ∀ {xs : List α} {acc : List D} {s : S} {Q : List D → S → Prop}, (∀ x ∈ xs, ∀ (acc : List D) (K : List D → S → Prop), (acc ++ f x).length ≤ sizeLine → K (acc ++ f x) s → body (g x) acc s K) →
    (acc ++ xs.flatMap f).length ≤ sizeLine → Q (acc ++ xs.flatMap f) s → lcGo2 body (xs.map g) acc s Q
  | [], acc, s, Q, _, _, q => by
    show Q acc s
    simpa using q
  | x :: xs, acc, s, Q, h, hl, q => by
    rw [List.flatMap_cons] at hl q
    refine h x (by simp) acc _ ?_ (lc2_flat f (xs := xs) (acc := acc ++ f x) (fun y hy => h y (by simp [hy])) (by simpa using hl) (by simpa using q))
    simp at hl ⊢
    omega
end
end Dv
namespace Dv
open PySem L2
theorem addP_int (i j : Int) (R : D → Prop) : addP (.int i) (.int j) R = R (.int (i + j)) := rfl
theorem addP_str (x y : Str) (R : D → Prop) : addP (.str x) (.str y) R = (x.length + y.length ≤ sizeLine ∧ R (.str (x ++ y))) := rfl
theorem addP_tup (x y : List D) (R : D → Prop) : addP (.tup x) (.tup y) R = (x.length + y.length ≤ sizeLine ∧ R (.tup (x ++ y))) := rfl
theorem addP_lst (x y : List D) (R : D → Prop) : addP (.lst x) (.lst y) R = (x.length + y.length ≤ sizeLine ∧ R (.lst (x ++ y))) := rfl
theorem cmpP_int (f : Int → Int → Bool) (g : D → D → Bool) (i j : Int) (R : D → Prop) : cmpP f g (.int i) (.int j) R = R (.bl (f i j)) := rfl
theorem intP_int (C : Int → Int → Prop) (f : Int → Int → Int) (i j : Int) (R : D → Prop) : intP C f (.int i) (.int j) R = (C i j ∧ R (.int (f i j))) := by
  refine propext ⟨fun ⟨a, b, h1, h2, h3, h4⟩ => ?_, fun h => ⟨i, j, rfl, rfl, h.1, h.2⟩⟩
  cases h1
  cases h2
  exact ⟨h3, h4⟩
theorem slD_tup (xs : List D) (lo hi : Option Int) : slD (.tup xs) lo hi = some (.tup (cutD xs lo hi)) := rfl
theorem slD_lst (xs : List D) (lo hi : Option Int) : slD (.lst xs) lo hi = some (.lst (cutD xs lo hi)) := rfl
theorem lenD_tup (xs : List D) : lenD (.tup xs) = some xs.length := rfl
theorem lenD_lst (xs : List D) : lenD (.lst xs) = some xs.length := rfl
theorem lenD_str (x : Str) : lenD (.str x) = some x.length := rfl
end Dv

set_option Elab.async false
set_option linter.all false
set_option maxRecDepth 100000
/-! The world of the laws: the dict w with the draws and the place. -/
namespace Dv
open PySem L2

def kDraws : Key := .inr "draws"
def kAt : Key := .inr "at"
def wKvs (L : Addr) (i : Int) : List (Key × V) := [(kDraws, .ref L), (kAt, .int i)]
theorem k_ne : ¬ kDraws = kAt := by decide +kernel
theorem w_at (L : Addr) (i : Int) : valV (wKvs L i) kAt = some (.int i) := by
  unfold wKvs
  rw [valV_neg k_ne, valV_pos rfl]
theorem w_draws (L : Addr) (i : Int) : valV (wKvs L i) kDraws = some (.ref L) := by
  unfold wKvs
  rw [valV_pos rfl]
theorem w_put (L : Addr) (i j : Int) : putK (wKvs L i) kAt (.int j) = wKvs L j := by
  have h : valV (wKvs L i) kAt = some (.int i) := w_at L i
  unfold wKvs putK at *
  simp [k_ne]
theorem w_merge (L : Addr) (i : Int) : mergeK [] (wKvs L i) = wKvs L i := by
  have h : ¬ kAt = kDraws := fun z => k_ne z.symm
  unfold wKvs mergeK putK
  simp [h, k_ne, putK]
/-- w, once it is made, and nothing else that changes -/
@[reducible] def Wd (K : PySem.W.Frag) : Wld where
  S := Option Addr
  own s a := s = some a
  rel s Hs H := ∀ p, s = some p → Hs p = none ∧ ∃ (L : Addr) (i : Int) (ns : List Int), H p = some (.dK (wKvs L i)) ∧ SqL K Hs L (ns.map V.int) ∧ 0 ≤ i
  keep := fun {s Hs H Hs' H'} r f n k p e => by
    obtain ⟨h1, L, i, ns, h2, h3, h4⟩ := r p e
    exact ⟨n p e h1, L, i, ns, by rw [k p e]; exact h2, f.seq h3, h4⟩
  there := fun r e q => by
    obtain ⟨_, L, i, ns, h, _⟩ := r _ e
    rw [h] at q
    cases q
end Dv
namespace Dv
open PySem L2
/-- the place is moved on -/
theorem wd_step {c : Cn} {p : Addr} {Hs H : Hp} {L : Addr} {i : Int} {ns : List Int} (r : (Wd c.K).rel (some p) Hs H) (hs : Same Hs H) (hp : H p = some (.dK (wKvs L i))) (hL : SqL c.K Hs L (ns.map V.int)) (hi : 0 ≤ i) :
    Go (Wd c.K) (some p) Hs H (some p) Hs (upd H p (.dK (wKvs L (i + 1)))) := by
  have h0 : Hs p = none := (r p rfl).1
  refine ⟨Same.refl _, fun a o q => ?_, fun _ q => .inl q, fun a o q n => ?_, fun a q => ?_, fun _ q => .inl q, fun q e => ?_⟩
  · rw [upd_ne (fun z => by rw [z, h0] at q; cases q)]
    exact hs a o q
  · rw [upd_ne (fun z => n (by rw [z]))]
    exact q
  · by_cases z : a = p
    · rw [z, upd_same]; exact fun y => nomatch y
    · rw [upd_ne z]; exact q
  · cases e
    exact ⟨h0, L, i + 1, ns, upd_same, hL, by omega⟩
abbrev OkA := List D → Option Addr → (D → Option Addr → Prop) → Prop
/-- draws: any number below n -/
def o_next : OkA := fun ds s R => ∃ (p : Addr) (n : Int), ds = [.raw (.ref p), .int n] ∧ s = some p ∧ 0 < n ∧ ∀ r : Int, 0 ≤ r → r < n → R (.int r) (some p)
/-- any of the items -/
def o_pick : OkA := fun ds s R => ∃ (p : Addr) (xs : List D), ds = [.raw (.ref p), .lst xs] ∧ s = some p ∧ xs ≠ [] ∧ ∀ x ∈ xs, R x (some p)
/-- w = {"draws": e, "at": 0} -/
def dEnter {K : PySem.W.Frag} (i : Nat) (te : TD (Wd K)) : TDS (Wd K) := fun E ρ s => s = none ∧ te ρ none fun d s1 => s1 = none ∧ ∃ ns : List Int, d = .lst (ns.map .int) ∧ ∀ p : Addr, E.nx (ρ.set i (.d (.raw (.ref p)))) (some p)
theorem ds_enter {X : Cx} {K : PySem.W.Frag} {B : Bs (Wd K)} {i : Nat} {x : Str} {e : Expr} {te : TD (Wd K)} {pos pos' p1 p2 p3 p4 : Pos} {j1 j2 j3 : Nat} (hN : X.N.Nodup) (hi : X.N[i]? = some x) (hx : Loc X.env.scope x) (he : DE (Wd K) B X e te)
    (hs : swapsWith (.Dict [some (.Constant (.str "draws") j1 p1), some (.Constant (.str "at") j2 p2)] [e, .Constant (.int 0) j3 p3] p4) (some (.Name x pos')) pos.line X.env = pure false := by rfl)
    (hf : X.fn x = true ∨ X.env.scope.names.lookup x = some .local := by first | exact .inl rfl | exact .inr rfl | assumption) (hK : X.K = K := by rfl) :
    DS (Wd K) B X (.Assign [.Name x pos'] (.Dict [some (.Constant (.str "draws") j1 p1), some (.Constant (.str "at") j2 p2)] [e, .Constant (.int 0) j3 p3] p4) pos) (dEnter i te) := by
  subst hK
  refine ⟨ps_imp (ps_set hN hi hx (pe_disp (pps_cons pe_str he.run (pps_cons pe_str pe_int pps_nil)) rfl rfl (fun z => nomatch z) (by show 2 ≤ 15; decide)) hs hf) fun D σ H h => ?_⟩
  obtain ⟨Hs, ρ, s, E, S, ⟨e0, h1⟩, k⟩ := h
  subst e0
  intro p hp
  have S1 := S.step ((Lay.mut (o := .dK []) S.sub hp).go S.rel)
  refine ⟨Hs, ρ, none, _, S1, h1, fun d s1 Hs1 H1 v hR g r => ?_⟩
  obtain ⟨e1, ns, e2, hq⟩ := hR
  subst e1 e2
  have hp1 : H1 p = some (.dK []) := g.ext p _ upd_same (fun z => nomatch z)
  have hps : Hs p = none := S.sub.free hp
  have hps1 : Hs1 p = none := by
    cases q : Hs1 p with
    | none => rfl
    | some o =>
      rcases g.new p (by rw [q]; exact fun z => nomatch z) with z | z
      · exact absurd hps z
      · rw [upd_same] at z; cases z
  cases r with
  | @lst L vs _ z hL ra =>
    have ev := rpa_ints ra
    subst ev
    refine ⟨hp1, wKvs L 0, rfl, by show 2 ≤ 15; decide, ?_⟩
    rw [w_merge]
    have gC : Go (Wd X.K) none Hs H (some p) Hs1 (upd H1 p (.dK (wKvs L 0))) := by
      refine ⟨g.fz, fun a o q => ?_, fun a q => ?_, fun a o q n => ?_, fun a q => ?_, fun a q => ?_, fun q e => ?_⟩
      · rw [upd_ne (fun z => by rw [z, hps1] at q; cases q)]
        exact g.sub a o q
      · rcases g.new a q with z | z
        · exact .inl z
        · by_cases y : a = p
          · rw [y, upd_same] at z; cases z
          · rw [upd_ne y] at z; exact .inr z
      · have y : a ≠ p := fun y => by rw [y, hp] at q; cases q
        rw [upd_ne y]
        exact g.ext a o (by rw [upd_ne y]; exact q) (fun z => nomatch z)
      · have y : a ≠ p := fun y => by rw [y] at q; exact q hp
        rw [upd_ne y]
        exact g.th a (by rw [upd_ne y]; exact q)
      · cases q
        exact .inr hp
      · cases e
        exact ⟨hps1, L, 0, ns, upd_same, hL, by decide⟩
    exact k.nx _ (some p) Hs1 _ _ (hq p) g.fz ((S.step gC).set (.raw _))
end Dv

set_option Elab.async false
set_option linter.all false
set_option maxRecDepth 100000
set_option maxHeartbeats 4000000
/-! A tuple times one. -/
namespace Dv
open PySem L2 PySem.Spec PyProof.Rows
open AutoSeq1 (wpAny_loadPart')
/-- t * 1 is t -/
theorem tup_once (l : Addr) (items : Array Value) (n : Nat) (dd : Option Addr) (sl : Array (Option Value)) (u : Tok) :
    Meets (Builtin.«tuple.__mul__» ⟨[.ref l, .int 1 u], []⟩) (fun _ R s => s.heap.get? l = some { cls := .type "tuple", dict := dd, data := .seq items n, slots := sl } ∧ R (.ok (.ret (.ref l))) s) :=
  .of_wp fun prog w A R s h => by
    obtain ⟨hp, g, d, tk, os⟩ := s
    obtain ⟨hl, h⟩ := h
    have f1 := AutoSeq1.idx_int
    wp_walk using wpAny_loadPart' hl
    exact ⟨_, rfl, h⟩
section
variable {X : Cx}
def rOnce (K : PySem.W.Frag) : R2 := fun x y H Q => ∃ l xs, x = .ref l ∧ y = .int 1 ∧ SqT K H l xs ∧ Q (.ref l) H
theorem op_once : OpR X (binaryOp .Mult) (rOnce X.K) := by
  intro pins s σ H x y v u Q I rx ry h
  obtain ⟨l, xs, rfl, rfl, hT, q⟩ := h
  cases rx
  obtain ⟨t, rfl⟩ := ry
  obtain ⟨its, r, ⟨⟨cls, dd, data, sl⟩, ho, hc, n, hd⟩, hs⟩ := I.tuple hT
  simp only at hc hd
  subst hc hd
  exact wpAny_binaryOp_repeat_ref (T := "tuple") (U := "int") (by decide) ⟨_, ho, rfl⟩ (fun s' => typeIs_int s' 1 t) noFill_tuple_mul F.fills_int_mul F.slot_int_rmul repeat_tuple F.slot_int_index.lookup
    (call_meets F.slot_int_rmul (typeIs_int s 1 t) F.entry_int_rmul (F.args_int_rmul_2 _ _) (int_rmul_tuple 1 t l its.toArray n dd sl)
      ⟨ho, rfl, ⟨_, ho, rfl⟩, call_meets F.slot_tuple_mul ⟨_, ho, rfl⟩ F.entry_tuple_mul (F.args_tuple_mul_2 _ _) (tup_once l its.toArray n dd sl t) ⟨ho, .ref l, H, I, rfl, q⟩⟩)
/-- a tuple times 1, 2, .. -/
theorem od_rep1 : OpD X (binaryOp .Mult) (fun d e R => ∃ xs n, d = .tup xs ∧ e = .int n ∧ xs ≠ [] ∧ 1 ≤ n ∧ n ≤ 1000 ∧ xs.length ≤ 1000 ∧ R (.tup (List.replicate n.toNat xs).flatten)) := by
  obtain ⟨r, hr, l⟩ := od_rep (X := X)
  refine ⟨_, hr.or op_once, fun Hs H x y d e R Q hs rx ry ⟨xs, n, h1, h2, h3, h4, h5, h6, h7⟩ k => ?_⟩
  by_cases hn : 2 ≤ n
  · exact .inl (l Hs H x y d e R Q hs rx ry ⟨xs, n, h1, h2, h3, hn, h5, h6, h7⟩ k)
  · have e1 : n = 1 := by omega
    subst e1 h1 h2
    have e2 : (List.replicate (1 : Int).toNat xs).flatten = xs := by simp
    rw [e2] at h7
    have rx2 := rx
    cases rx with
    | @tup a vs _ z hq ra => exact .inr ⟨a, vs, rfl, ry.intE, SqT_same hs hq, k _ Hs H _ h7 (Lay.refl hs) rx2⟩
end
end Dv

set_option Elab.async false
set_option linter.all false
set_option maxRecDepth 100000
set_option maxHeartbeats 4000000
/-! list.extend of read sequences. -/
namespace Dv
open PySem L2 PySem.Spec PyProof.Rows
open AutoSeq1 (wpAny_loadPart')
theorem list_ext_l (l : Addr) (items : Array Value) (n : Nat) (b : Addr) (items2 : Array Value) (n2 : Nat) (dd : Option Addr) (sl : Array (Option Value)) (h0 : ¬(!items.isEmpty && Builtin.List.listTooLong (items.size + items2.size)) = true) (h1 : items.size ≤ sizeLine) (h2 : items.size + items2.size ≤ sizeLine + 1) :
    Meets (Builtin.«list.extend» ⟨[.ref l, .ref b], []⟩) (fun _ R s => s.heap.get? l = some { cls := .type "list", dict := none, data := .seq items n, slots := #[] } ∧ s.heap.get? b = some { cls := .type "list", dict := dd, data := .seq items2 n2, slots := sl } ∧
      R (.ok (.ret Value.none)) { s with heap := s.heap.update l (Obj.mapSeq fun x => x ++ items2), toks := s.toks }) :=
  .of_wp fun prog w A R s h => by
    obtain ⟨hp, g, d, tk, os⟩ := s
    obtain ⟨hl, hb, h⟩ := h
    have f2 := AutoSeq1.sub_tuple_tuple
    have f3 := AutoSeq1.sub_list_list
    have more : (items ++ items2).size ≤ sizeLine + 1 := by rw [Array.size_append]; exact h2
    wp_walk using (wpAny_updateSeq hl rfl (hz := h1) (_hz' := more)), wpAny_loadPart' hl, wpAny_loadPart' hb
    exact ⟨_, rfl, h⟩
theorem list_ext_t (l : Addr) (items : Array Value) (n : Nat) (b : Addr) (items2 : Array Value) (n2 : Nat) (dd : Option Addr) (sl : Array (Option Value)) (h0 : ¬(!items.isEmpty && Builtin.List.listTooLong (items.size + items2.size)) = true) (h1 : items.size ≤ sizeLine) (h2 : items.size + items2.size ≤ sizeLine + 1) :
    Meets (Builtin.«list.extend» ⟨[.ref l, .ref b], []⟩) (fun _ R s => s.heap.get? l = some { cls := .type "list", dict := none, data := .seq items n, slots := #[] } ∧ s.heap.get? b = some { cls := .type "tuple", dict := dd, data := .seq items2 n2, slots := sl } ∧
      R (.ok (.ret Value.none)) { s with heap := s.heap.update l (Obj.mapSeq fun x => x ++ items2), toks := s.toks }) :=
  .of_wp fun prog w A R s h => by
    obtain ⟨hp, g, d, tk, os⟩ := s
    obtain ⟨hl, hb, h⟩ := h
    have f2 := AutoSeq1.sub_tuple_tuple
    have f4 := AutoSeq1.sub_tuple_list
    have more : (items ++ items2).size ≤ sizeLine + 1 := by rw [Array.size_append]; exact h2
    wp_walk using (wpAny_updateSeq hl rfl (hz := h1) (_hz' := more)), wpAny_loadPart' hl, wpAny_loadPart' hb
    exact ⟨_, rfl, h⟩
section
variable {X : Cx}
def rExtQ (K : PySem.W.Frag) : V → List V → Hp → VK → Prop := fun x vs H Q => ∃ l b xs zs, x = .ref l ∧ vs = [.ref b] ∧ H l = some (.lst xs) ∧ (SqL K H b zs ∨ SqT K H b zs) ∧ xs.length + zs.length ≤ sizeLine ∧ Q .non (upd H l (.lst (xs ++ zs)))
theorem mt_extQ : MtM X "list.extend" (rExtQ X.K) := by
  intro pins s σ H x vs v us Q I rx rv h
  obtain ⟨l, b, xs, zs, rfl, rfl, hH, hB, hz, q⟩ := h
  cases rx
  obtain ⟨u, rfl, ru⟩ := rv.one
  cases ru
  obtain ⟨z, its, n, r, hl, e⟩ := I.lstM hH
  have fin : ∀ (its2 : List Value), Vals zs its2 → its2.length = zs.length → EP X pins σ Q .none { s with heap := s.heap.update l (Obj.mapSeq fun x => x ++ its2.toArray), toks := s.toks } := fun its2 r2 hl2 => by
    refine ⟨.non, _, I.lset (its' := its ++ its2) hH e (by simp) (r.append r2) ?_, rfl, q⟩
    rw [List.length_append]
    omega
  have nl : ∀ its2 : List Value, its2.length = zs.length → ¬(!its.toArray.isEmpty && Builtin.List.listTooLong (its.toArray.size + its2.toArray.size)) = true := fun its2 hl2 => by
    rw [notLongL (by rw [List.size_toArray, List.size_toArray]; omega), Bool.and_false]
    exact Bool.false_ne_true
  rcases hB with hB | hB
  · obtain ⟨its2, r2, ⟨⟨cls, dd, data, sl⟩, n2, ho, hc, hdn, hd⟩, hz2⟩ := I.list hB
    simp only at hc hd
    subst hc hd
    have hl2 : its2.length = zs.length := r2.length.symm
    exact call_meets F.slot_list_extend ⟨_, e, rfl⟩ F.entry_list_extend (F.args_list_extend_2 _ _)
      (list_ext_l l its.toArray n b its2.toArray n2 dd sl (nl its2 hl2) (by rw [List.size_toArray]; omega) (by rw [List.size_toArray, List.size_toArray]; omega)) ⟨e, ho, fin its2 r2 hl2⟩
  · obtain ⟨its2, r2, ⟨⟨cls, dd, data, sl⟩, ho, hc, n2, hd⟩, hz2⟩ := I.tuple hB
    simp only at hc hd
    subst hc hd
    have hl2 : its2.length = zs.length := r2.length.symm
    exact call_meets F.slot_list_extend ⟨_, e, rfl⟩ F.entry_list_extend (F.args_list_extend_2 _ _)
      (list_ext_t l its.toArray n b its2.toArray n2 dd sl (nl its2 hl2) (by rw [List.size_toArray]; omega) (by rw [List.size_toArray, List.size_toArray]; omega)) ⟨e, ho, fin its2 r2 hl2⟩
/-- x.extend(ys) -/
theorem ow_extend : OwnM X "list.extend" (fun xs ds R => ∃ d ys, ds = [d] ∧ (d = .tup ys ∨ d = .lst ys) ∧ xs.length + ys.length ≤ sizeLine ∧ R .non (xs ++ ys)) := by
  refine ⟨_, mt_extQ, fun Hs H q vs xs as ds R Q hq ra rs hS hqs h k => ?_⟩
  obtain ⟨d, ys, rfl, hd, hz, hR⟩ := h
  cases rs with
  | cons r rs =>
    cases rs
    have l1 := ra.length
    rcases hd with rfl | rfl
    · cases r with
      | @tup b zs _ z hb rb =>
        have l2 := rb.length
        exact ⟨q, b, vs, zs, rfl, rfl, hq, .inr (SqT_same hS hb), by omega, k .non _ _ .non hR (ra.append rb) .non (by rw [List.length_append]; exact hz)⟩
    · cases r with
      | @lst b zs _ z hb rb =>
        have l2 := rb.length
        exact ⟨q, b, vs, zs, rfl, rfl, hq, .inl (hS.seq hb), by omega, k .non _ _ .non hR (ra.append rb) .non (by rw [List.length_append]; exact hz)⟩
end
end Dv

set_option Elab.async false
set_option linter.all false
set_option maxRecDepth 100000
set_option maxHeartbeats 4000000
/-! Dicts of tuples: k in d, d[k] of one's own; list(range(n)). -/
namespace Dv
open PySem L2 PySem.W PyProof.Rows
section
variable {X : Cx} {pins : List (Addr × Obj)} {σ : L2.St} {H : Hp} {s : Shared}
theorem dv_in {Hs : Hp} {d : Addr} {o : Obj} {es : List DictEntry} {kvs : List (D × D)} {kv : V} {k : D} {n : NestedKey} {ku : Value} {neg : Bool} {Q : Value → Shared → Prop} {E : Value → Shared → Prop} (hu : kroom X) (I : Inv X pins σ H s) (hs : Same Hs H) (hd : H d = some (.ext (DAt d o))) (fx : DFx d o es) (re : RpE (cn X) Hs es kvs) (nd : (kvs.map fun p => nk p.1).Nodup) (tk : tupK kvs)
    (rk : Rp (cn X) Hs kv k) (hk : shp 8 k = true) (hkt : ∃ xs, k = .tup xs) (hn : nk k = some n) (ru : RelV kv ku) (h : ∀ tk, Q (.bool (if neg then !(dfind kvs n).isSome else (dfind kvs n).isSome)) { s with toks := tk }) :
    wpAny (model X.prog X.w) X.A (compareOp (if neg then .NotIn else .In) ku (.ref d)) Q E s := by
  obtain ⟨xs, hm, _, xr⟩ := Inv.dictAt I hs hd fx re nd tk
  obtain ⟨zs, rfl⟩ := hkt
  cases rk with
  | @tup a vs _ z hq ra =>
    obtain rfl : ku = Value.ref a := ru
    have hkey : (nestedKind X.prog X.w).is s.heap n a := ⟨Rp.nest I (Rp.tup z (SqT_same hs hq) (ra.same hs)) hn rfl, nk_depth hk hn⟩
    have e : (valueAt (pairsH xs) n).isSome = (dfind kvs n).isSome := by
      rw [valueAt_pairsH]
      rcases xr.find (n := n) with ⟨h1, h2⟩ | ⟨d', p, v, h1, h2, h3, h4⟩
      · rw [h2, h1]; rfl
      · rw [h2, h1]; rfl
    cases neg with
    | false => exact in_keyed (kr hu) hkey fx.ns ⟨xs, hm, rfl⟩ (by rw [e]; exact h _)
    | true => exact notIn_keyed (kr hu) hkey fx.ns ⟨xs, hm, rfl⟩ (by rw [e]; exact h _)
end
section
variable {X : Cx}
/-- k in d by values -/
def rInX (X : Cx) (neg : Bool) : R2 := fun kv x H Q => ∃ (Hs : Hp) (d : Addr) (o : Obj) (es : List DictEntry) (kvs : List (D × D)) (k : D) (n : NestedKey), x = .ref d ∧ Same Hs H ∧ H d = some (.ext (DAt d o)) ∧ DFx d o es ∧ RpE (cn X) Hs es kvs ∧ (kvs.map fun p => nk p.1).Nodup ∧ tupK kvs ∧
  Rp (cn X) Hs kv k ∧ shp 8 k = true ∧ (∃ xs, k = .tup xs) ∧ nk k = some n ∧ Q (.bl (if neg then !(dfind kvs n).isSome else (dfind kvs n).isSome)) H
theorem op_inX (hu : kroom X) (neg : Bool) : OpR X (compareOp (if neg then .NotIn else .In)) (rInX X neg) := by
  intro pins s σ H x y v u Q I rx ry h
  obtain ⟨Hs, d, o, es, kvs, k, n, rfl, hs, hd, fx, re, nd, tk, rk, hk, hkt, hn, q⟩ := h
  obtain rfl : u = Value.ref d := ry
  exact dv_in hu I hs hd fx re nd tk rk hk hkt hn rx fun tk' => ⟨.bl (if neg then !(dfind kvs n).isSome else (dfind kvs n).isSome), H, I.tok tk', rfl, q⟩
def inDP (neg : Bool) (d : D) (kvs : List (D × D)) (R : D → Prop) : Prop := ∃ n, tupK kvs ∧ shp 8 d = true ∧ (∃ xs, d = .tup xs) ∧ nk d = some n ∧ R (.bl (if neg then !(dfind kvs n).isSome else (dfind kvs n).isSome))
theorem lk_inX (neg : Bool) : Lk2 X (rInX X neg) (fun d e R => ∃ kvs, e = .dic kvs ∧ inDP neg d kvs R) := fun Hs H x y d e R Q hs rx ry ⟨kvs, he, n, tk, hk, hkt, hn, h⟩ k => by
  subst he
  cases ry with
  | @dic a o es _ hH fx re nd => exact ⟨Hs, a, o, es, kvs, d, n, rfl, hs, hs _ _ hH, fx, re, nd, tk, rx, hk, hkt, hn, k _ Hs H _ h (Lay.refl hs) (.bl _)⟩
theorem od_inDic (hu : kroom X) : OpD X (compareOp .In) (fun d e R => ∃ kvs, e = .dic kvs ∧ inDP false d kvs R) := ⟨_, op_inX hu false, lk_inX false⟩
theorem od_ninDic (hu : kroom X) : OpD X (compareOp .NotIn) (fun d e R => ∃ kvs, e = .dic kvs ∧ inDP true d kvs R) := ⟨_, op_inX hu true, lk_inX true⟩
end
section
variable {W : Wld} {B : Bs W} {X : Cx} {e : Expr} {te tk : TD W} {pos : Pos}
/-- k in x, x a dict of one's own -/
def dInDO (i : Nat) (neg : Bool) (ta : TD W) : TD W := fun ρ s Q => ∃ kvs, ρ[i]? = some (.own (.dic kvs)) ∧ ta ρ s fun d s1 => inDP neg d kvs fun r => Q r s1
theorem lift_inDO {i : Nat} {neg : Bool} {σ : L2.St} {H : Hp} {Q : VK} (h : liftE (cn X) W B (dInDO i neg te) σ H Q) : tOp (rInX X neg) (liftE (cn X) W B te) (tVar i) σ H Q := by
  obtain ⟨Hs, ρ, s, R, S, ⟨kvs, e1, h1⟩, k⟩ := h
  refine ⟨Hs, ρ, s, _, S, h1, fun d s1 Hs1 H1 v hR g rv => ?_⟩
  obtain ⟨n, tk, hk, hkt, hn, hq⟩ := hR
  obtain ⟨q, o, a1, a2, a3, a4, a5, a6⟩ := (S.step g).ow i _ e1
  cases a3 with
  | @dic o es _ fx re nd => exact ⟨_, a1, Hs1, q, o, es, kvs, d, n, rfl, g.sub, a2, fx, re, nd, tk, rv, hk, hkt, hn, k _ s1 Hs1 H1 _ hq g (.bl _)⟩
theorem de_inDO {i : Nat} {a b : Expr} (hu : kroom X) (ha : DE W B X a te) (hb : PE X b (tVar i)) (hm : behindInMarks .In b = false := by first | exact nomark _ | rfl) : DE W B X (.Compare a [.In] [b] pos) (dInDO i false te) :=
  ⟨pe_imp (pe_cmpR (op_inX hu false) ha.run hb hm) fun σ H Q h => lift_inDO h⟩
theorem de_ninDO {i : Nat} {a b : Expr} (hu : kroom X) (ha : DE W B X a te) (hb : PE X b (tVar i)) (hm : behindInMarks .NotIn b = false := by first | exact nomark _ | rfl) : DE W B X (.Compare a [.NotIn] [b] pos) (dInDO i true te) :=
  ⟨pe_imp (pe_cmpR (op_inX hu true) ha.run hb hm) fun σ H Q h => lift_inDO h⟩
theorem dt_ninDO {i : Nat} {a b : Expr} (hu : kroom X) (ha : DE W B X a te) (hb : PE X b (tVar i)) (hm : behindInMarks .NotIn b = false := by first | exact nomark _ | rfl) : DT W B X (.Compare a [.NotIn] [b] pos) (dB (dInDO i true te)) := by
  refine ⟨pt_imp (pt_cmpR (op_inX hu true) ha.run hb hm) fun σ H Q h => ?_⟩
  obtain ⟨Hs, ρ, s, R, S, h1, k⟩ := h
  refine lift_inDO ⟨Hs, ρ, s, _, S, h1, fun d s1 Hs1 H1 v hR g r => ?_⟩
  obtain ⟨b, rfl, hq⟩ := hR
  exact ⟨b, r.blE, k b s1 Hs1 H1 hq g⟩
theorem dt_inDO {i : Nat} {a b : Expr} (hu : kroom X) (ha : DE W B X a te) (hb : PE X b (tVar i)) (hm : behindInMarks .In b = false := by first | exact nomark _ | rfl) : DT W B X (.Compare a [.In] [b] pos) (dB (dInDO i false te)) := by
  refine ⟨pt_imp (pt_cmpR (op_inX hu false) ha.run hb hm) fun σ H Q h => ?_⟩
  obtain ⟨Hs, ρ, s, R, S, h1, k⟩ := h
  refine lift_inDO ⟨Hs, ρ, s, _, S, h1, fun d s1 Hs1 H1 v hR g r => ?_⟩
  obtain ⟨b, rfl, hq⟩ := hR
  exact ⟨b, r.blE, k b s1 Hs1 H1 hq g⟩
/-- x[k], x a dict of one's own -/
def dIxDO (i : Nat) (ta : TD W) : TD W := fun ρ s Q => ∃ kvs, ρ[i]? = some (.own (.dic kvs)) ∧ ta ρ s fun d s1 => ∃ n y, tupK kvs ∧ shp 8 d = true ∧ (∃ xs, d = .tup xs) ∧ nk d = some n ∧ dfind kvs n = some y ∧ Q y s1
theorem de_ixDO {i : Nat} {a b : Expr} (hu : kroom X) (ha : PE X a (tVar i)) (hb : DE W B X b te) (hs : PlainIx b := by exact fun _ _ => rfl) : DE W B X (.Subscript a b pos) (dIxDO i te) := by
  refine ⟨pe_imp (pe_ix (ix_dictX hu) ha hb.run hs) fun σ H Q h => ?_⟩
  obtain ⟨Hs, ρ, s, R, S, ⟨kvs, e1, h1⟩, k⟩ := h
  obtain ⟨q, o, a1, a2, a3, a4, a5, a6⟩ := S.ow i _ e1
  cases a3 with
  | @dic o es _ fx re nd =>
    refine ⟨_, a1, Hs, ρ, s, _, S, h1, fun d s1 Hs1 H1 v hR g rv => ?_⟩
    obtain ⟨n, y, tk, hk, hkt, hn, hf, hq⟩ := hR
    exact ⟨Hs1, q, o, es, kvs, d, y, n, rfl, g.sub, g.ext q _ a2 a5, fx, re.same g.fz, nd, tk, rv, hk, hkt, hn, hf, fun w rw' => k y s1 Hs1 H1 w hq g rw'⟩

/-! ### list(range(n)), tuple(range(n)) -/
theorem rpa_range {c : Cn} {H : Hp} (n : Int) : RpA c H (rgV 0 n) (rangeD 0 n.toNat) := by
  unfold rgV rangeD
  rw [Int.sub_zero]
  generalize List.range n.toNat = ks
  induction ks with
  | nil => exact .nil
  | cons k ks ih => exact .cons (.int _) ih
def dLstRg (ta : TD W) : TD W := fun ρ s Q => ta ρ s fun d s1 => ∃ n : Int, d = .int n ∧ -(2 ^ 62) ≤ n ∧ n ≤ 16777216 ∧ Q (.lst (rangeD 0 n.toNat)) s1
def dTupRg (ta : TD W) : TD W := fun ρ s Q => ta ρ s fun d s1 => ∃ n : Int, d = .int n ∧ -(2 ^ 62) ≤ n ∧ n ≤ 16777216 ∧ Q (.tup (rangeD 0 n.toNat)) s1
theorem rg_ok {n : Int} (h1 : -(2 ^ 62) ≤ n) (h2 : n ≤ 16777216) : RgOk 0 n := ⟨by decide, by decide, h1, by omega, by omega⟩
theorem rg_len {n : Int} (h2 : n ≤ 16777216) : (rangeD 0 n.toNat).length ≤ sizeLine := by
  rw [PySem.sizeLine_eq]
  simp [rangeD]
  omega
theorem de_listRg {a : Expr} {p p2 pos2 : Pos} (hc : X.calm = true) (hg : Gl X "list") (hm : X.mg "list" = none) (hg2 : Gl X "range") (hm2 : X.mg "range" = none) (ha : DE W B X a te) (na : starEach [a] X.env = (false, eval a X.env) :: starEach [] X.env := by rfl)
    (nb : starEach [.Call (.Name "range" p2) [a] [] pos2] X.env = (false, eval (.Call (.Name "range" p2) [a] [] pos2) X.env) :: starEach [] X.env := by rfl) :
    DE W B X (.Call (.Name "list" p) [.Call (.Name "range" p2) [a] [] pos2] [] pos) (dLstRg te) := by
  refine ⟨pe_imp (pe_listRg hc hg hm (prg_1 hg2 hm2 ha.run na) nb) fun σ H Q h => ?_⟩
  obtain ⟨Hs, ρ, s, R, S, h1, k⟩ := h
  refine ⟨Hs, ρ, s, _, S, h1, fun d s1 Hs1 H1 v hR g rv => ?_⟩
  obtain ⟨n, rfl, b1, b2, hq⟩ := hR
  refine ⟨n, rv.intE, rg_ok b1 b2, fun q hq2 => ?_⟩
  exact k _ s1 _ _ _ hq (g.trans ((Lay.one g.sub hq2).go g.rel)) (.lstN (g.sub.free hq2) (rg_len b2) (rpa_range n))
theorem de_tupRg {a : Expr} {p p2 pos2 : Pos} (hc : X.calm = true) (hg : Gl X "tuple") (hm : X.mg "tuple" = none) (hg2 : Gl X "range") (hm2 : X.mg "range" = none) (ha : DE W B X a te) (na : starEach [a] X.env = (false, eval a X.env) :: starEach [] X.env := by rfl)
    (nb : starEach [.Call (.Name "range" p2) [a] [] pos2] X.env = (false, eval (.Call (.Name "range" p2) [a] [] pos2) X.env) :: starEach [] X.env := by rfl) :
    DE W B X (.Call (.Name "tuple" p) [.Call (.Name "range" p2) [a] [] pos2] [] pos) (dTupRg te) := by
  refine ⟨pe_imp (pe_tupRg hc hg hm (prg_1 hg2 hm2 ha.run na) nb) fun σ H Q h => ?_⟩
  obtain ⟨Hs, ρ, s, R, S, h1, k⟩ := h
  refine ⟨Hs, ρ, s, _, S, h1, fun d s1 Hs1 H1 v hR g rv => ?_⟩
  obtain ⟨n, rfl, b1, b2, hq⟩ := hR
  refine ⟨n, rv.intE, rg_ok b1 b2, fun q hq2 => ?_⟩
  exact k _ s1 _ _ _ hq (g.trans ((Lay.one g.sub hq2).go g.rel)) (.tupN (g.sub.free hq2) (rg_len b2) (rpa_range n))
end
end Dv

set_option Elab.async false
set_option linter.all false
set_option maxRecDepth 100000
/-! Exceptions. -/
namespace Dv
open PySem L2 PyProof.Rows
/-- the base with another wish about exceptions -/
abbrev wEx {W : Wld} (B : Bs W) (ex : Env → Value → W.S → Prop) : Bs W := ⟨B.s, B.Hs, B.H, ex⟩
theorem Stt.reB {c : Cn} {W : Wld} {B B' : Bs W} {σ : L2.St} {H : Hp} {ρ : Env} {s : W.S} {Hs : Hp} (S : Stt c W B σ H ρ s Hs) (h1 : B'.s = B.s) (h2 : B'.Hs = B.Hs) (h3 : B'.H = B.H) : Stt c W B' σ H ρ s Hs := by
  obtain ⟨a, b, d, x⟩ := B
  obtain ⟨a', b', d', x'⟩ := B'
  simp only at h1 h2 h3
  subst h1 h2 h3
  exact ⟨S.go, S.len, S.dat, S.ow, S.ap⟩
/-- what is raised in X is as B says -/
structure ExLk (X : Cx) (W : Wld) (B : Bs W) : Prop where
  ex : ∃ Wx : WX, Takes X Wx ∧ ∀ σ H ρ s Hs cls, Stt (cn X) W B σ H ρ s Hs → B.ex ρ cls s → Wx cls none σ H
abbrev OkX (W : Wld) := List D → W.S → (D → W.S → Prop) → (Value → W.S → Prop) → Prop
def spX (c : Cn) (W : Wld) (n : Nat) (ok : OkX W) : Sp := fun vs H Q E => ∃ Hs s ds R RE, W.rel s Hs H ∧ Same Hs H ∧ RpA c Hs vs ds ∧ ds.length = n ∧ ok ds s R RE ∧ Aft c W s Hs H R Q ∧ ∀ cls s' Hs' H', RE cls s' → Go W s Hs H s' Hs' H' → E cls none H'
structure CalX (P : Program) (w : World) (K : PySem.W.Frag) (mg : Str → Option Value) (base : Heap) (x : Str) (k : Nat) (ps : List Str) (sp : Sp) : Prop where
  ex : ∃ f fd, FnOk P w K mg base (L2.CX P w) k f fd ps sp ∧ mg x = some (.ref f) ∧ PySem.W.keepIn K (.ref f) = true ∧ Binds K fd ps []
section
variable {W : Wld} {B : Bs W} {X : Cx} {e : Expr} {es : List Expr} {t : TDA W} {pos p' : Pos} {x : Str} {k n : Nat} {ps : List Str}
def dCallX (B : Bs W) (n : Nat) (ok : OkX W) (t : TDA W) : TD W := fun ρ s Q => t ρ s fun ds s1 => ds.length = n ∧ ok ds s1 Q (B.ex ρ)
theorem de_fnX {ok : OkX W} (C : CalX X.prog X.w X.K X.mg X.base x k ps (spX (cn X) W n ok)) (xl : ExLk X W B) (hr : Room k X.A) (hg : Gl X x) (ha : DA W B X (e :: es) t) (hdb : (x == ("__debug__" : Str)) = false := by decide)
    (he : starEach (e :: es) X.env = (false, eval e X.env) :: starEach es X.env := by rfl) (hpl : (backTo pos (starEach es X.env)).any (·.1) = false := by rfl) : DE W B X (.Call (.Name x p') (e :: es) [] pos) (dCallX B n ok t) := by
  obtain ⟨f, fd, F, m, kp, b⟩ := C.ex
  obtain ⟨Wx, tk, lk⟩ := xl.ex
  refine ⟨pe_imp (pe_callS F hr hg m kp b (fun σ => passAt tk σ) ha.run hdb he hpl) fun σ H Q h => ?_⟩
  obtain ⟨Hs, ρ, s, R, S, h1, kk⟩ := h
  refine ⟨Hs, ρ, s, _, S, h1, fun ds s1 Hs1 H1 vs hR g1 rv => ?_⟩
  obtain ⟨hn, ho⟩ := hR
  exact ⟨Hs1, s1, ds, _, _, g1.rel, g1.sub, rv, hn, ho, fun d s2 Hs2 H2 v hd g2 r => kk d s2 Hs2 H2 v hd (g1.trans g2) r, fun cls s2 Hs2 H2 hx g2 => lk σ H2 ρ s2 Hs2 cls ((S.step g1).step g2) hx⟩
/-- raise C(..) -/
def dRaise (B : Bs W) (cls : Value) : TDS W := fun _ ρ s => B.ex ρ cls s
theorem ds_raise {cls : Value} (hc : X.calm = true) (xl : ExLk X W B) (he : PMk X e (fun _ H Q => Q cls none H)) : DS W B X (.Raise (some e) none pos) (dRaise B cls) := by
  obtain ⟨Wx, tk, lk⟩ := xl.ex
  exact ⟨ps_imp (ps_raise hc tk he) fun D σ H ⟨Hs, ρ, s, E, S, h, k⟩ => lk σ H ρ s Hs cls S h⟩
/-- try: body except C: suite -/
def dTry (K : PySem.W.Frag) (B : Bs W) (c : Value) (tb : Bs W → TDS W) (ts : TDS W) : TDS W := fun E ρ s => ∀ B' : Bs W, (∀ ρ' cls s', (∃ b, PySem.W.exmOne K cls c = some b ∧ (b = true → ts E ρ' s') ∧ (b = false → B.ex ρ' cls s')) → B'.ex ρ' cls s') → tb B' E ρ s
/-- from a later frozen heap, and back -/
theorem Stt.later {c : Cn} {σ : L2.St} {H : Hp} {ρ : Env} {s : W.S} {Hs : Hp} {ex : Env → Value → W.S → Prop} (S : Stt c W B σ H ρ s Hs) : Stt c W ⟨B.s, Hs, B.H, ex⟩ σ H ρ s Hs :=
  ⟨⟨Same.refl _, S.go.sub, fun a q => .inl q, S.go.ext, S.go.th, S.go.wn, S.go.rel⟩, S.len, S.dat, S.ow, S.ap⟩
theorem Stt.back {c : Cn} {σ σ0 : L2.St} {H H0 : Hp} {ρ ρ0 : Env} {s s0 : W.S} {Hs Hs0 : Hp} {ex : Env → Value → W.S → Prop} (S0 : Stt c W B σ0 H0 ρ0 s0 Hs0) (S : Stt c W ⟨B.s, Hs0, B.H, ex⟩ σ H ρ s Hs) : Stt c W B σ H ρ s Hs :=
  ⟨⟨S0.go.fz.trans S.go.fz, S.go.sub, fun a q => by
    rcases S.go.new a q with z | z
    · exact S0.go.new a z
    · exact .inr z, S.go.ext, S.go.th, S.go.wn, S.go.rel⟩, S.len, S.dat, S.ow, S.ap⟩
theorem ds_try {c : Value} {body suite : List Stmt} {b₀ : Stmt} {np pos' : Pos} {tb : Bs W → TDS W} {ts : TDS W} (xl : ExLk X W B) (hs : X.stack = X.env :: X.outer) (hf : X.env.frame = some X.env.locals) (hc : Names X x c)
    (hb : ∀ (B' : Bs W) (pn : List (Addr × Obj)) (xe : Value → Shared → Prop), ExLk (X.tr pn xe) W B' → PassesOwn (model X.prog X.w) X.A X.env xe → DSs W B' (X.tr pn xe) body (tb B'))
    (hsu : ∀ (a : Addr) (oe : Obj) (pn : List (Addr × Obj)), DSs W B (X.suite a ((a, oe) :: pn)) (b₀ :: suite) ts) :
    DS W B X (.Try body [.ExceptHandler (some (.Name x np)) none (b₀ :: suite) pos'] [] [] pos) (dTry X.K B c tb ts) := by
  obtain ⟨Wout, tk, lk⟩ := xl.ex
  let exOf : WX → Hp → Env → Value → W.S → Prop := fun Wx Hs0 ρ cls s => ∀ σ H Hs, Stt (cn X) W ⟨B.s, Hs0, B.H, B.ex⟩ σ H ρ s Hs → Wx cls none σ H
  let Bof : WX → Hp → Bs W := fun Wx Hs0 => ⟨B.s, Hs0, B.H, exOf Wx Hs0⟩
  refine ⟨ps_imp (ps_try_only hs hf hc tk (tb := fun Wx D σ H => ∃ Hs0, liftS (cn X) W (Bof Wx Hs0) (tb (Bof Wx Hs0)) D σ H) (ts := fun a cls d => liftS (cn X) W B ts) (fun Wx pn xe tkx hp => ⟨fun pins s σ H D I ⟨Hs0, w⟩ => ?_⟩)
    (fun a oe cls d pn hz hd => (hsu a oe pn).run)) fun D σ H h => ?_⟩
  · exact (hb (Bof Wx Hs0) pn xe ⟨Wx, tkx, fun σ H ρ s Hs cls S hx => hx σ H Hs (S.reB rfl rfl rfl)⟩ hp).run.run pins s σ H D I w
  · obtain ⟨Hs, ρ, s, E, S, h1, k⟩ := h
    refine ⟨Hs, Hs, ρ, s, E, S.later, h1 _ fun ρ' cls s' hx => ?_, ?_⟩
    · obtain ⟨b, hb1, hyes, hno⟩ := hx
      intro σ' H' Hs' S'
      have SB := S.back S'
      exact ⟨b, hb1, fun hb2 a ha => ⟨Hs', ρ', s', E, SB, hyes hb2, k.same S'.go.fz⟩, fun hb2 => lk σ' H' ρ' s' Hs' cls SB (hno hb2)⟩
    · refine ⟨fun ρ' s' Hs' σ' H' a e S' => k.nx ρ' s' Hs' σ' H' a e (S.back S'), fun d s' Hs' H' v a g r => k.rt d s' Hs' H' v a ?_ r, fun ρ' s' Hs' σ' H' a e S' => k.bk ρ' s' Hs' σ' H' a e (S.back S'), fun ρ' s' Hs' σ' H' a e S' => k.ct ρ' s' Hs' σ' H' a e (S.back S')⟩
      exact ⟨S.go.fz.trans g.fz, g.sub, fun a q => by
        rcases g.new a q with z | z
        · exact S.go.new a z
        · exact .inr z, g.ext, g.th, g.wn, g.rel⟩
end
/-! ### a def that may raise -/
section
open PySem.Spec
variable {P : Program} {w : World} {K : PySem.W.Frag} {mg : Str → Option Value} {base : Heap}
theorem okX {W : Wld} {x qual : Str} {st : Stmt} {f : Addr} {fd : FuncData} {N ps : List Str} {k n : Nat} {ok : OkX W} (F : Fun K x qual st f fd) (S : FnScope N ps (defScope st)) (hn : ps.length = n)
    (hbody : ∀ (cdv : Value) (A : Around) (outer : List PySem.Env) (s : Shared) (H : Hp) (E : XK) (B : Bs W), Room k (A.deeper (envOfC qual (defScope st) s.heap.objs.size f cdv)) →
      ExLk (cxOf (L2.CX P w) P w K mg base N qual (defScope st) f cdv A outer s H E) W B →
      ∃ t, DSs W B (cxOf (L2.CX P w) P w K mg base N qual (defScope st) f cdv A outer s H E) (defBody st) t ∧
        ∀ ds s R RE, ds.length = n → ok ds s R RE → B.ex = (fun _ cls s => RE cls s) → t { nx := fun _ s' => R .non s', rt := R } (ds.map .d ++ List.replicate (N.length - n) .un) s) : FnOk P w K mg base (L2.CX P w) (k + 1) f fd ps (spX ⟨P, w, K⟩ W n ok) := by
  refine F.okX S (fun vs H Q E h => ?_) (fun cdv A outer s H vs Q E hr h => ?_)
  · obtain ⟨Hs, s, ds, R, RE, _, _, ra, hl, _⟩ := h
    rw [ra.length, hl, hn]
  · obtain ⟨Hs, s0, ds, R, RE, hrel, hsub, ra, hl, ho, k, kE⟩ := h
    obtain ⟨t, ht, hq⟩ := hbody cdv A outer s H E ⟨s0, Hs, H, fun _ cls s => RE cls s⟩ hr ⟨fun cls d _ H => E cls d H, takes_of rfl rfl rfl rfl, fun σ H' ρ s' Hs' cls S' hx => kE cls s' Hs' H' hx S'.go⟩
    refine ⟨_, ht.run, Hs, _, s0, _, ?_, hq ds s0 R RE hl ho rfl, ⟨fun ρ s' Hs' σ' H' a _ S' => k .non s' Hs' H' .non a S'.go .non, fun d s' Hs' H' v a g r => k d s' Hs' H' v a g r, fun _ _ _ _ _ a => a.elim, fun _ _ _ _ _ a => a.elim⟩⟩
    have q := Stt.start (ex := fun _ cls s => RE cls s) (c := ⟨P, w, K⟩) (W := W) (m := N.length - n) hsub hrel ra
    have e : L2.start N vs = vs.map some ++ List.replicate (N.length - n) none := by
      unfold L2.start
      rw [ra.length, hl]
    rw [e]
    exact q
end
end Dv

set_option Elab.async false
set_option linter.all false
set_option maxRecDepth 100000
/-! raise C(), except C as e, a def in a slot. -/
namespace Dv
open PySem L2 PyProof.Rows
section
variable {X : Cx} {C : Addr} {bmB : List Value} {Bx newId initId : String} {x : Str} {p pos : Pos}
/-- C(), C an own class of exceptions without an own __init__ -/
theorem mk_own0 (F : ExcBaseFacts Bx newId initId bmB) (q : PySem.W.excIn X.K C bmB newId = true) (gC : X.mg x = some (.ref C)) (kC : PySem.W.keepIn X.K (.ref C) = true) (r : Raises X (.ref C)) (hg : Gl X x) (hdb : (x == ("__debug__" : Str)) = false := by decide) :
    PMk X (.Call (.Name x p) [] [] pos) (fun _ H Q => Q (.ref C) none H) := by
  intro pins s σ H Q I h
  refine wpAny_Call_Name_kw (ld_glob I hg gC ?_ hdb)
  refine PySem.W.callWith_K0 I.kIn kC ?_
  obtain ⟨bm, N, nm, qn, bs, hdct, sn, sub, ab, col, dd, k0, k1, k2, k3, k5, mN, hC, hN, hni, T⟩ := exc_obj I.kIn q
  refine wpAny_call_exc_subT F T hC hN hni (fun h' e hm => ?_) (Nat.zero_le _)
  exact mk_of I hm r h (I.hok.gone hm.new)
end
section
variable {W : Wld} {B : Bs W} {X : Cx} {pos : Pos}
/-- try: body except C as n: suite; slot i is n's, empty behind it -/
def dTryAs (K : PySem.W.Frag) (B : Bs W) (c : Value) (C : Addr) (i : Nat) (tb : Bs W → TDS W) (ts : Addr → TDS W) : TDS W := fun E ρ s => ∀ B' : Bs W, (∀ ρ' cls s', (∃ b, PySem.W.exmOne K cls c = some b ∧
    (b = true → cls = .ref C ∧ ∀ a, ts a { nx := fun ρ s => E.nx (ρ.set i .un) s, rt := E.rt, bk := fun ρ s => E.bk (ρ.set i .un) s, ct := fun ρ s => E.ct (ρ.set i .un) s } (ρ'.set i (.d (.raw (.ref a)))) s') ∧ (b = false → B.ex ρ' cls s')) → B'.ex ρ' cls s') → tb B' E ρ s
theorem ds_tryAs {x n : Str} {c : Value} (C : Addr) {i : Nat} {body suite : List Stmt} {b₀ : Stmt} {np pos' : Pos} {tb : Bs W → TDS W} {ts : Addr → TDS W} (xl : ExLk X W B) (hs : X.stack = X.env :: X.outer) (hf : X.env.frame = some X.env.locals) (hN : X.N.Nodup) (hi : X.N[i]? = some n) (hln : X.env.kindOf n = some .local) (hc : Names X x c)
    (hb : ∀ (B' : Bs W) (pn : List (Addr × Obj)) (xe : Value → Shared → Prop), ExLk (X.tr pn xe) W B' → PassesOwn (model X.prog X.w) X.A X.env xe → DSs W B' (X.tr pn xe) body (tb B'))
    (hsu : ∀ (a : Addr) (oe : Obj) (pn : List (Addr × Obj)), Zc (.ref C) none oe → (∃ vs, oe.data = .fields vs) → DSs W B (X.suite a ((a, oe) :: pn)) (b₀ :: suite) (ts a)) :
    DS W B X (.Try body [.ExceptHandler (some (.Name x np)) (some n) (b₀ :: suite) pos'] [] [] pos) (dTryAs X.K B c C i tb ts) := by
  obtain ⟨Wout, tk, lk⟩ := xl.ex
  let exOf : WX → Hp → Env → Value → W.S → Prop := fun Wx Hs0 ρ cls s => ∀ σ H Hs, Stt (cn X) W ⟨B.s, Hs0, B.H, B.ex⟩ σ H ρ s Hs → Wx cls none σ H
  let Bof : WX → Hp → Bs W := fun Wx Hs0 => ⟨B.s, Hs0, B.H, exOf Wx Hs0⟩
  refine ⟨ps_imp (ps_try_as hs hf hN hi hln hc tk (tb := fun Wx D σ H => ∃ Hs0, liftS (cn X) W (Bof Wx Hs0) (tb (Bof Wx Hs0)) D σ H) (ts := fun a cls d D σ H => (cls = .ref C ∧ d = none) ∧ liftS (cn X) W B (ts a) D σ H) (fun Wx pn xe tkx hp => ⟨fun pins s σ H D I ⟨Hs0, w⟩ => ?_⟩)
    (fun a oe cls d pn hz hd => ⟨fun pins s σ H D I ⟨⟨e1, e2⟩, w⟩ => by
      subst e1 e2
      exact (hsu a oe pn hz hd).run.run pins s σ H D I w⟩)) fun D σ H h => ?_⟩
  · exact (hb (Bof Wx Hs0) pn xe ⟨Wx, tkx, fun σ H ρ s Hs cls S hx => hx σ H Hs (S.reB rfl rfl rfl)⟩ hp).run.run pins s σ H D I w
  · obtain ⟨Hs, ρ, s, E, S, h1, k⟩ := h
    refine ⟨Hs, Hs, ρ, s, E, S.later, h1 _ fun ρ' cls s' hx => ?_, ?_⟩
    · obtain ⟨b, hb1, hyes, hno⟩ := hx
      intro σ' H' Hs' S'
      have SB := S.back S'
      refine ⟨b, hb1, fun hb2 a ha => ⟨⟨(hyes hb2).1, rfl⟩, Hs', _, s', _, SB.set (.raw (.ref a)), (hyes hb2).2 a, ?_⟩, fun hb2 => lk σ' H' ρ' s' Hs' cls SB (hno hb2)⟩
      have k' := k.same S'.go.fz
      exact ⟨fun ρ s Hs' σ H a b S => k'.nx _ s Hs' _ H a b S.forget, k'.rt, fun ρ s Hs' σ H a b S => k'.bk _ s Hs' _ H a b S.forget, fun ρ s Hs' σ H a b S => k'.ct _ s Hs' _ H a b S.forget⟩
    · refine ⟨fun ρ' s' Hs' σ' H' a e S' => k.nx ρ' s' Hs' σ' H' a e (S.back S'), fun d s' Hs' H' v a g r => k.rt d s' Hs' H' v a ?_ r, fun ρ' s' Hs' σ' H' a e S' => k.bk ρ' s' Hs' σ' H' a e (S.back S'), fun ρ' s' Hs' σ' H' a e S' => k.ct ρ' s' Hs' σ' H' a e (S.back S')⟩
      exact ⟨S.go.fz.trans g.fz, g.sub, fun a q => by
        rcases g.new a q with z | z
        · exact S.go.new a z
        · exact .inr z, g.ext, g.th, g.wn, g.rel⟩
end
end Dv

set_option Elab.async false
set_option linter.all false
set_option maxRecDepth 100000
/-! Two or three names at once, one of them a new list; constants of the module. -/
namespace Dv
open PySem L2
section
variable {W : Wld} {B : Bs W} {X : Cx} {pos : Pos} {te : TD W} {tf : TDF W}
/-- x, y = a datum, a new list -/
def dParDF (i j : Nat) (te : TD W) (tf : TDF W) : TDS W := fun E ρ s => te ρ s fun d s1 => tf ρ s1 fun xs s2 => E.nx ((ρ.set i (.d d)).set j (.own (.lst xs))) s2
theorem ds_parDF {i j : Nat} {x y : Str} {a b : Expr} {px py pt : Pos} {kt k2 : Nat} {pt2 : Pos} (hc : X.calm = true) (hN : X.N.Nodup) (hi : X.N[i]? = some x) (hj : X.N[j]? = some y) (hij : i ≠ j)
    (hx : X.env.scope.names.lookup x = some .local) (hy : X.env.scope.names.lookup y = some .local) (ha : DE W B X a te) (hb : DF W B X b tf) (h1 : starEach [a, b] X.env = (false, eval a X.env) :: starEach [b] X.env := by rfl) (h2 : starEach [b] X.env = (false, eval b X.env) :: starEach [] X.env := by rfl)
    (hw : swappedStores [.Tuple [.Name x px, .Name y py] kt pt] (.Tuple [a, b] k2 pt2) X.env = pure (some [x, y]) := by rfl)
    (hs : swapsWithSole [.Tuple [.Name x px, .Name y py] kt pt] (.Tuple [a, b] k2 pt2) pos.line X.env = pure false := by rfl) :
    DS W B X (.Assign [.Tuple [.Name x px, .Name y py] kt pt] (.Tuple [a, b] k2 pt2) pos) (dParDF i j te tf) :=
  ⟨ps_imp (ps_par hc hN hi hj hij hx hy (pa_cons ha.run (pa_cons hb.run pa_nil h2) h1) hw hs) fun D σ H ⟨Hs, ρ, s, E, S, h, k⟩ => by
    refine ⟨Hs, ρ, s, _, S, h, fun d s1 Hs1 H1 v hR g rv => ?_⟩
    have S1 := S.step g
    refine ⟨Hs1, ρ, s1, _, S1, hR, fun xs s2 Hs2 H2 p vs hR2 g2 hp ra h0 hw2 hn hz => ?_⟩
    have S2 := (S1.step g2).set (i := i) (rv.same g2.fz)
    have S1' := S1.set (i := i) rv
    exact ⟨_, _, rfl, k.nx _ s2 Hs2 _ H2 hR2 (g.fz.trans g2.fz) (S2.setOwn hp (.lst hz ra) h0 hw2 (free_of S1.go.th hn) fun j' b' _ ej => S1'.fresh hn j' b' ej)⟩⟩
/-- x, y = a new list, a datum -/
def dParFD (i j : Nat) (tf : TDF W) (te : TD W) : TDS W := fun E ρ s => tf ρ s fun xs s1 => te ρ s1 fun d s2 => E.nx ((ρ.set i (.own (.lst xs))).set j (.d d)) s2
theorem ds_parFD {i j : Nat} {x y : Str} {a b : Expr} {px py pt : Pos} {kt k2 : Nat} {pt2 : Pos} (hc : X.calm = true) (hN : X.N.Nodup) (hi : X.N[i]? = some x) (hj : X.N[j]? = some y) (hij : i ≠ j)
    (hx : X.env.scope.names.lookup x = some .local) (hy : X.env.scope.names.lookup y = some .local) (ha : DF W B X a tf) (hb : DE W B X b te) (h1 : starEach [a, b] X.env = (false, eval a X.env) :: starEach [b] X.env := by rfl) (h2 : starEach [b] X.env = (false, eval b X.env) :: starEach [] X.env := by rfl)
    (hw : swappedStores [.Tuple [.Name x px, .Name y py] kt pt] (.Tuple [a, b] k2 pt2) X.env = pure (some [x, y]) := by rfl)
    (hs : swapsWithSole [.Tuple [.Name x px, .Name y py] kt pt] (.Tuple [a, b] k2 pt2) pos.line X.env = pure false := by rfl) :
    DS W B X (.Assign [.Tuple [.Name x px, .Name y py] kt pt] (.Tuple [a, b] k2 pt2) pos) (dParFD i j tf te) :=
  ⟨ps_imp (ps_par hc hN hi hj hij hx hy (pa_cons ha.run (pa_cons hb.run pa_nil h2) h1) hw hs) fun D σ H ⟨Hs, ρ, s, E, S, h, k⟩ => by
    refine ⟨Hs, ρ, s, _, S, h, fun xs s1 Hs1 H1 p vs hR g hp ra h0 hw2 hn hz => ?_⟩
    have S1 := S.step g
    have S1' := S1.setOwn (i := i) hp (.lst hz ra) h0 hw2 (free_of S.go.th hn) fun j' b' _ ej => S.fresh hn j' b' ej
    refine ⟨Hs1, ρ, s1, _, S1, hR, fun d s2 Hs2 H2 v hR2 g2 rv => ?_⟩
    exact ⟨_, _, rfl, k.nx _ s2 Hs2 _ H2 hR2 (g.fz.trans g2.fz) ((S1'.step g2).set rv)⟩⟩
/-- x, y, z = data -/
def dPar3 (i j l : Nat) (ta : TDA W) : TDS W := fun E ρ s => ta ρ s fun ds s1 => ∃ d e f, ds = [d, e, f] ∧ E.nx (((ρ.set i (.d d)).set j (.d e)).set l (.d f)) s1
theorem ds_par3 {i j l : Nat} {x y z : Str} {a b c : Expr} {ta : TDA W} {px py pz pt : Pos} {kt k2 : Nat} {pt2 : Pos} (hc : X.calm = true) (hN : X.N.Nodup) (hi : X.N[i]? = some x) (hj : X.N[j]? = some y) (hl : X.N[l]? = some z) (hij : i ≠ j) (hil : i ≠ l) (hjl : j ≠ l)
    (hx : X.env.scope.names.lookup x = some .local) (hy : X.env.scope.names.lookup y = some .local) (hz : X.env.scope.names.lookup z = some .local) (ha : DA W B X [a, b, c] ta)
    (hw : swappedStores [.Tuple [.Name x px, .Name y py, .Name z pz] kt pt] (.Tuple [a, b, c] k2 pt2) X.env = pure (some [x, y, z]) := by rfl)
    (hs : swapsWithSole [.Tuple [.Name x px, .Name y py, .Name z pz] kt pt] (.Tuple [a, b, c] k2 pt2) pos.line X.env = pure false := by rfl) :
    DS W B X (.Assign [.Tuple [.Name x px, .Name y py, .Name z pz] kt pt] (.Tuple [a, b, c] k2 pt2) pos) (dPar3 i j l ta) := ⟨ps_imp (ps_par3 hc hN hi hj hl hij hil hjl hx hy hz ha.run hw hs) fun D σ H ⟨Hs, ρ, s, E, S, h1, k⟩ => by
  refine ⟨Hs, ρ, s, _, S, h1, fun ds s1 Hs1 H1 vs hR g r => ?_⟩
  obtain ⟨d, e, f, rfl, q⟩ := hR
  cases r with
  | cons r1 r =>
    cases r with
    | cons r2 r =>
      cases r with
      | cons r3 r =>
        cases r
        exact ⟨_, _, _, rfl, k.nx _ s1 Hs1 _ H1 q g.fz ((((S.step g).set r1).set r2).set r3)⟩⟩
/-- a text or number of the module -/
theorem de_globS {x : Str} {z : Str} {tk : Tok} {p : Pos} (hg : Gl X x) (hm : X.mg x = some (.str z tk)) (hz : z.length ≤ sizeLine := by decide +kernel) (hd : (x == ("__debug__" : Str)) = false := by decide) : DE W B X (.Name x p) (dC (.str z)) := de_const (pe_glob (v := .str z) hg hm ⟨tk, rfl⟩ hd) fun _ => .str hz
end
end Dv

set_option Elab.async false
set_option linter.all false
set_option maxRecDepth 100000
/-! Methods of texts. -/
namespace Dv
open PySem L2 PyProof.Rows
def MetD (X : Cx) (id : String) (p : D → PL) : Prop := ∃ r, MtR X id r ∧ LkM X r p
section
variable {W : Wld} {B : Bs W} {X : Cx} {e o : Expr} {es : List Expr} {te : TD W} {t : TDA W} {apos cpos : Pos} {name : Str} {id : String} {p : D → PL}
theorem tyS_str {z : Str} {H : Hp} : TyS X "str" (.str z) H := fun pins σ s v I r => by
  obtain ⟨tk, rfl⟩ := r
  exact ⟨typeIs_str _ _ _, fun a e => nomatch e⟩
/-- text.m(e, ..) -/
def dMetS (p : D → PL) (te : TD W) (t : TDA W) : TD W := fun ρ s Q => te ρ s fun d s1 => (∃ z, d = .str z) ∧ t ρ s1 fun ds s2 => p d ds fun r => Q r s2
theorem de_metS (slot : PySem.Slot "str" name id) (hty : typeOf (.builtin id) = pure (.type "method_descriptor")) (hm : MetD X id p) (ho : DE W B X o te) (ha : DA W B X (e :: es) t)
    (hbase : attributeBase o name X.env (eval o X.env) = eval o X.env := by rfl)
    (hfew : ((backTo cpos (starEach (e :: es) X.env)).all (fun x => !x.1) && (backToKw cpos (keywordEach [] X.env)).all (fun x => x.1.isSome)
      && decide ((e :: es).length + ([] : List Keyword).length + (if ([] : List Keyword).isEmpty then 0 else 1) < 30)) = true := by rfl)
    (hline : (apos.endLine == cpos.line) = true := by rfl) (hs : starEach (e :: es) X.env = (false, eval e X.env) :: starEach es X.env := by rfl) (hplain : (backTo cpos (starEach es X.env)).any (·.1) = false := by rfl) :
    DE W B X (.Call (.Attribute o name apos) (e :: es) [] cpos) (dMetS p te t) := by
  obtain ⟨r, hr, l⟩ := hm
  refine ⟨pe_imp (pe_bmT PySem.F.plainAttrs_str slot hty hr ho.run ha.run hbase hfew hline hs hplain) fun σ H Q h => ?_⟩
  obtain ⟨Hs, ρ, s, R, S, h1, k⟩ := h
  refine ⟨Hs, ρ, s, _, S, h1, fun d s1 Hs1 H1 v hR g rv => ?_⟩
  obtain ⟨⟨z, rfl⟩, hR⟩ := hR
  have ev : v = .str z := by cases rv; rfl
  subst ev
  refine ⟨tyS_str, Hs1, ρ, s1, _, S.step g, hR, fun ds s2 Hs2 H2 vs hp g2 rs => ?_⟩
  exact l Hs2 H2 (.str z) (.str z) vs ds _ _ g2.sub (rv.same g2.fz) rs hp fun d Hs3 H3 w hd ly rw' => k d s2 Hs3 H3 w hd (g.trans (g2.trans (ly.go g2.rel))) rw'
theorem Rp.strE {c : Cn} {H : Hp} {v : V} {z : Str} (h : Rp c H v (.str z)) : v = .str z := by
  cases h
  rfl
/-- 'abc'.index('b'), there -/
theorem md_index : MetD X "str.index" (fun d ds R => ∃ a b i rest, d = .str a ∧ ds = [.str b] ∧ Builtin.Str.occurrences a b 0 a.length 1 = i :: rest ∧ R (.int (i : Nat))) :=
  ⟨_, mt_sindex, fun Hs H x d vs ds R Q hs rx ra ⟨a, b, i, rest, h1, h2, h3, h4⟩ k => by
    subst h1 h2
    cases ra with
    | cons r ra =>
      cases ra
      exact ⟨a, b, i, rest, rx.strE, by rw [r.strE], h3, k _ Hs H _ h4 (Lay.refl hs) (.int _)⟩⟩
theorem rpa_strs {c : Cn} {H : Hp} : ∀ {ys : List Str} {vs : List V}, RpA c H vs (ys.map D.str) → vs = ys.map V.str
  | [], _, r => by
    cases r
    rfl
  | y :: ys, _, r => by
    cases r with
    | cons a b => rw [a.strE, rpa_strs b]; rfl
/-- sep.join(texts) -/
theorem md_join (hz : ∀ (ys : List Str) (a : Str), (Txt.join a ys).length ≤ (ys.map (·.length)).sum + ys.length * a.length) : MetD X "str.join" (fun d ds R => ∃ a ys e, d = .str a ∧ ds = [e] ∧ (e = .lst (ys.map .str) ∨ e = .tup (ys.map .str)) ∧ (ys.map (·.length)).sum + ys.length * a.length ≤ 16777216 ∧ R (.str (Txt.join a ys))) :=
  ⟨_, mt_join, fun Hs H x d vs ds R Q hs rx ra ⟨a, ys, e, h1, h2, h3, h4, h5⟩ k => by
    subst h1 h2
    have fin : Q (.str (Txt.join a ys)) H := k _ Hs H _ h5 (Lay.refl hs) (.str (by have := hz ys a; rw [PySem.sizeLine_eq]; omega))
    cases ra with
    | cons r ra =>
      cases ra
      rcases h3 with rfl | rfl
      · cases r with
        | @lst q ws _ z hq rb =>
          have ew := rpa_strs rb
          subst ew
          exact ⟨a, q, ys, rx.strE, rfl, .inl (hs.seq hq), h4, fin⟩
      · cases r with
        | @tup q ws _ z hq rb =>
          have ew := rpa_strs rb
          subst ew
          exact ⟨a, q, ys, rx.strE, rfl, .inr (SqT_same hs hq), h4, fin⟩⟩
end

/-! ### a def held in a slot -/
section
variable {W : Wld} {B : Bs W} {X : Cx} {e : Expr} {es : List Expr} {t : TDA W} {pos p' : Pos} {x : Str} {k n i : Nat} {ps : List Str}
/-- what stands at f keeps the promise -/
structure AtX (X : Cx) (k : Nat) (f : Addr) (sp : Sp) : Prop where
  ex : ∃ fd ps, FnOk X.prog X.w X.K X.mg X.base (L2.CX X.prog X.w) k f fd ps sp ∧ PySem.W.keepIn X.K (.ref f) = true ∧ Binds X.K fd ps []
/-- slot i holds a def of those that Sx tells of -/
def dCallHX (B : Bs W) (i n : Nat) (Sx : Addr → Option (OkX W)) (t : TDA W) : TD W := fun ρ s Q => ∃ f ok, ρ[i]? = some (.d (.raw (.ref f))) ∧ Sx f = some ok ∧ t ρ s fun ds s1 => ds.length = n ∧ ok ds s1 Q (B.ex ρ)
theorem de_fnHX {Sx : Addr → Option (OkX W)} (A : ∀ f ok, Sx f = some ok → AtX X k f (spX (cn X) W n ok)) (xl : ExLk X W B) (hr : Room k X.A) (hN : X.N[i]? = some x) (hv : Vis X.env.scope x) (ha : DA W B X (e :: es) t) (hdb : (x == ("__debug__" : Str)) = false := by decide) (hcd : (x == ("__classdict__" : Str)) = false := by decide)
    (he : starEach (e :: es) X.env = (false, eval e X.env) :: starEach es X.env := by rfl) (hpl : (backTo pos (starEach es X.env)).any (·.1) = false := by rfl) : DE W B X (.Call (.Name x p') (e :: es) [] pos) (dCallHX B i n Sx t) := by
  obtain ⟨Wx, tk, lk⟩ := xl.ex
  refine ⟨⟨fun pins s0 σ H Q I h => ?_⟩⟩
  obtain ⟨Hs, ρ, s, R, S, ⟨f, ok, e1, e2, h1⟩, kk⟩ := h
  obtain ⟨v, ev, rv⟩ := S.dat i _ e1
  have : v = .ref f := by cases rv; rfl
  subst this
  obtain ⟨fd, ps, F, hk, hb⟩ := (A f ok e2).ex
  refine wpAny_Call_Name_kw (thn ((pe_var (pos := p') hN hv hdb hcd).run pins s0 σ H (fun v H1 => v = .ref f ∧ H1 = H) I ⟨.ref f, ev, rfl, rfl⟩) fun u s1 ⟨v, H1, I1, r1, q1⟩ => ?_)
  obtain ⟨q1, q2⟩ := q1
  subst q1 q2
  cases r1
  have hA : liftA (cn X) W B t σ H1 (fun vs H2 => spX (cn X) W n ok vs H2 Q (WE Wx σ)) := ⟨Hs, ρ, s, _, S, h1, fun ds s2 Hs2 H2 vs hR g1 rv2 => by
    obtain ⟨hn, ho⟩ := hR
    exact ⟨Hs2, s2, ds, _, _, g1.rel, g1.sub, rv2, hn, ho, fun d s3 Hs3 H3 v hd g2 r => kk d s3 Hs3 H3 v hd (g1.trans g2) r, fun cls s3 Hs3 H3 hx g2 => lk σ H3 ρ s3 Hs3 cls ((S.step g1).step g2) hx⟩⟩
  exact PySem.W.callWith_K (h₀ := X.base) I.ok.mod.kin hk (thn (ha.run.run pos pins s1 σ H1 _ I1 hA) fun us s2 ⟨vs, H2, I2, r, q⟩ => ⟨I2.kIn, run_fnS F hr hb (passAt tk σ) I2 r q⟩) he hpl
end
end Dv

set_option Elab.async false
set_option linter.all false
set_option maxRecDepth 100000
/-! Defs that raise, by name. -/
namespace Dv
open PySem L2 PyProof.Rows
section
variable {P : Program} {w : World} {K : PySem.W.Frag} {mg : Str → Option Value} {base : Heap} {x : Str} {ps : List Str} {st : Stmt}
theorem Def.calX {k : Nat} {sp : Sp} (D : Def K mg x st ps) (h : ∀ f fd, Fun K x x st f fd → FnOk P w K mg base (L2.CX P w) k f fd ps sp) : CalX P w K mg base x k ps sp := by
  obtain ⟨f, fd, F, m, b⟩ := D.ex
  exact ⟨f, fd, h f fd F, m, F.kp, b⟩
/-- THE RULE for a def that may raise -/
theorem Def.okXc {W : Wld} {N : List Str} {k n : Nat} {ok : OkX W} (D : Def K mg x st ps) (S : FnScope N ps (defScope st)) (hn : ps.length = n)
    (hbody : ∀ (f : Addr) (cdv : Value) (A : Around) (outer : List PySem.Env) (s : Shared) (H : Hp) (E : XK) (B : Bs W), Room k (A.deeper (envOfC x (defScope st) s.heap.objs.size f cdv)) →
      ExLk (cxOf (L2.CX P w) P w K mg base N x (defScope st) f cdv A outer s H E) W B →
      ∃ t, DSs W B (cxOf (L2.CX P w) P w K mg base N x (defScope st) f cdv A outer s H E) (defBody st) t ∧
        ∀ ds s R RE, ds.length = n → ok ds s R RE → B.ex = (fun _ cls s => RE cls s) → t { nx := fun _ s' => R .non s', rt := R } (ds.map .d ++ List.replicate (N.length - n) .un) s) : CalX P w K mg base x (k + 1) ps (spX ⟨P, w, K⟩ W n ok) :=
  D.calX fun f fd F => okX F S hn fun cdv A outer s H E B hr xl => hbody f cdv A outer s H E B hr xl
/-- facts of an own class of exceptions over ValueError, without own __init__ -/
structure BadC (K : PySem.W.Frag) (mg : Str → Option Value) (x : Str) (C : Addr) : Prop where
  gC : mg x = some (.ref C)
  xC : PySem.W.excIn K C [.type "ValueError", .type "Exception", .type "BaseException", .type "object"] "ValueError.__new__" = true
  kC : PySem.W.keepIn K (.ref C) = true
  bC : PySem.W.subIn K (.ref C) (.type "BaseException") = some true
  tC : PySem.W.typeIn K (.ref C) = some (.type "type")
theorem mk_bad {X : Cx} {x : Str} {C : Addr} {p pos : Pos} (T : BadC X.K X.mg x C) (hg : Gl X x) (hdb : (x == ("__debug__" : Str)) = false := by decide) : PMk X (.Call (.Name x p) [] [] pos) (fun _ H Q => Q (.ref C) none H) :=
  mk_own0 PySem.F.excBase_ValueError T.xC T.gC T.kC (raises_own T.bC T.tC) hg hdb
end
end Dv

set_option Elab.async false
set_option linter.all false
set_option maxRecDepth 100000
/-! A plain def with a try in it; isinstance of what was caught. -/
namespace Dv
open PySem L2 PyProof.Rows
theorem cd_isE {X : Cx} {a D C : Addr} {oe : Obj} {pn : List (Addr × Obj)} (F : ExcC X.K D) (hz : Zc (.ref D) none oe) (hf : ∃ vs, oe.data = .fields vs) : CallD (X.suite a ((a, oe) :: pn)) (.builtin "isinstance") (fun ds R => ∃ b, ds = [.raw (.ref a), .raw (.ref C)] ∧ PySem.W.kitOne X.K (.ref D) (.ref C) = some b ∧ R (.bl b)) :=
  ⟨_, call_isE F hz hf, fun Hs H vs ds R Q hs ra ⟨b, h1, h2, h3⟩ k => by
    subst h1
    cases ra with
    | cons r ra =>
      cases ra with
      | cons r2 ra =>
        cases ra
        cases r
        cases r2
        exact ⟨.ref C, .ref C, b, rfl, fun u r => r, h2, k _ Hs H _ h3 (Lay.refl hs) (.bl b)⟩⟩
theorem ExLk.none {W : Wld} {X : Cx} {B : Bs W} (h : B.ex = fun _ _ _ => False) : ExLk X W B :=
  ⟨fun _ _ _ _ => False, fun _ _ x => by
    obtain ⟨_, _, _, _, _, _, _, _, _, _, _, _, _, _, _, _, z⟩ := x
    exact z.elim, fun σ H ρ s Hs cls S hx => by rw [h] at hx; exact hx⟩
section
open PySem.Spec
variable {P : Program} {w : World} {K : PySem.W.Frag} {mg : Str → Option Value} {base : Heap} {x : Str} {ps : List Str} {st : Stmt}
/-- THE RULE for a plain def with a try in it: nothing comes out -/
theorem Def.okPT {N : List Str} {k n : Nat} {ok : PL} (D : Def K mg x st ps) (S : FnScope N ps (defScope st)) (hn : ps.length = n)
    (hbody : ∀ (f : Addr) (cdv : Value) (A : Around) (outer : List PySem.Env) (s : Shared) (H : Hp) (E : XK) (B : Bs W0), Room k (A.deeper (envOfC x (defScope st) s.heap.objs.size f cdv)) → B.ex = (fun _ _ _ => False) →
      ∃ t, DSs W0 B (cxOf CX0 P w K mg base N x (defScope st) f cdv A outer s H E) (defBody st) t ∧
        ∀ ds R, ds.length = n → ok ds R → t { nx := fun _ _ => R .non, rt := fun d _ => R d } (ds.map .d ++ List.replicate (N.length - n) .un) ()) : Cal P w K mg base x (k + 1) ps (spP ⟨P, w, K⟩ n ok) :=
  D.cal fun f fd F => FnOk.toP (by
   obtain ⟨oc, od, kV, doc, pm, an, cdv0, ct, osl, rfl, lk, hcd⟩ := F.ex
   exact (fn_of lk hcd S (fun vs H Q E h => by
    obtain ⟨Hs, s, ds, R, _, _, ra, hl, _⟩ := h
    rw [ra.length, hl, hn]) (fun A outer s H vs Q E hr h => by
    obtain ⟨Hs, s0, ds, R, hrel, hsub, ra, hl, ho, k⟩ := h
    obtain ⟨t, ht, hq⟩ := hbody f _ A outer s H E ⟨s0, Hs, H, fun _ _ _ => False⟩ hr rfl
    refine ⟨_, ht.run, Hs, _, s0, _, ?_, hq ds (fun d => R d ()) hl ho, ⟨fun ρ s' Hs' σ' H' a _ S' => k .non s' Hs' H' .non a S'.go .non, fun d s' Hs' H' v a g r => k d s' Hs' H' v a g r, fun _ _ _ _ _ a => a.elim, fun _ _ _ _ _ a => a.elim⟩⟩
    have q := Stt.start (ex := fun _ _ _ => False) (c := ⟨P, w, K⟩) (W := W0) (m := N.length - n) hsub hrel ra
    have e : L2.start N vs = vs.map some ++ List.replicate (N.length - n) none := by
      unfold L2.start
      rw [ra.length, hl]
    rw [e]
    exact q)))
end
end Dv

set_option Elab.async false
set_option linter.all false
set_option maxRecDepth 100000
/-! x is not True. -/
namespace Dv
open PySem L2
variable {X : Cx}
theorem od_notB : OpD X (compareOp .IsNot) (fun d e R => ∃ a b, d = .bl a ∧ e = .bl b ∧ R (.bl (!(a == b)))) :=
  ⟨_, op_notBl, fun Hs H x y d e R Q hs rx ry ⟨a, b, h1, h2, h3⟩ kk => by
    subst h1 h2
    have q := kk _ Hs H _ h3 (Lay.refl hs) (.bl _)
    exact ⟨a, b, rx.blE, ry.blE, by cases a <;> cases b <;> exact q⟩⟩
end Dv

set_option Elab.async false
set_option linter.all false
set_option maxRecDepth 100000
/-! Plain facts of values, rows and bags. -/
namespace Bg
open PySem L2 Dv

/-- a text that a store may hold -/
abbrev Tx := { x : Str // PyData.strOk x = true }
/-- a value: None, a whole number, a text -/
inductive Vl where
  | non
  | int (i : Int)
  | str (x : Tx)
  deriving DecidableEq
abbrev Row := List Vl
def Vl.d : Vl → D
  | .non => .non
  | .int i => .int i
  | .str x => .str x.1
def rowD (r : Row) : D := .tup (r.map Vl.d)
def bagD (rs : List Row) : D := .tup (rs.map rowD)
def placeD : D → D
  | .non => .tup [.int 0, .int 0, .str ""]
  | .int i => .tup [.int 1, .int i, .str ""]
  | d => .tup [.int 2, .int 0, d]
def plV (v : Vl) : D := placeD v.d
def keyR (r : Row) : D := .tup (r.map plV)
def pairK (p : Row × Nat) : D := .tup [keyR p.1, .int (p.2 : Nat)]
def pairL (p : Row × Nat) : D := .tup [.lst (p.1.map plV), .int (p.2 : Nat)]
def ordK (p q : Row × Nat) : Bool := !ltD (pairK q) (pairK p)
def bagR (rs : List Row) : List Row := (rs.zipIdx.mergeSort ordK).map (·.1)

/-! ### tokens -/
abbrev toks (d : D) := PySem.W.keyToks d.py
theorem ltD_toks (d e : D) : ltD d e = PyProof.Rows.lexLt PyProof.Rows.itemOrd (toks d) (toks e) := rfl
theorem ltD_irrefl (d : D) : ltD d d = false := PyProof.Rows.lex_irrefl _
theorem ltD_asymm {d e : D} (h : ltD d e = true) : ltD e d = false := by
  cases q : ltD e d with
  | false => rfl
  | true =>
    have := PyProof.Rows.lex_trans (O := PyProof.Rows.itemOrd) _ _ _ h q
    exact absurd this (by rw [PyProof.Rows.lex_irrefl]; exact Bool.false_ne_true)
theorem ltD_trans {d e f : D} (h : ltD d e = true) (k : ltD e f = true) : ltD d f = true := PyProof.Rows.lex_trans (O := PyProof.Rows.itemOrd) _ _ _ h k
theorem ltD_neg {d e f : D} (h : ltD d f = true) : ltD d e = true ∨ ltD e f = true := PyProof.Rows.lex_negTrans (O := PyProof.Rows.itemOrd) _ _ _ h
theorem ordK_trans (a b c : Row × Nat) (h : ordK a b = true) (k : ordK b c = true) : ordK a c = true := by
  unfold ordK at *
  cases q : ltD (pairK c) (pairK a) with
  | false => rfl
  | true => rcases ltD_neg (e := pairK b) q with z | z <;> simp [z] at h k
theorem ordK_total (a b : Row × Nat) : (ordK a b || ordK b a) = true := by
  unfold ordK
  cases q : ltD (pairK b) (pairK a) with
  | false => rfl
  | true => simp [ltD_asymm q]
theorem pys_cons (d : D) (ds : List D) : pys (d :: ds) = d.py :: pys ds := by simp [pys]
theorem pys_nil : pys [] = [] := by simp [pys]
theorem toks_tup (ds : List D) : toks (.tup ds) = PySem.W.keyToksAll (pys ds) := by
  unfold toks
  rw [D.py, PySem.W.keyToks]
theorem toks_lst (ds : List D) : toks (.lst ds) = PySem.W.keyToksAll (pys ds) := by
  unfold toks
  rw [D.py, PySem.W.keyToks]
theorem toksAll_cons (d : D) (ds : List D) : PySem.W.keyToksAll (pys (d :: ds)) = .inl 1 :: (toks d ++ PySem.W.keyToksAll (pys ds)) := by
  rw [pys_cons, PySem.W.keyToksAll]
theorem toksAll_nil : PySem.W.keyToksAll (pys []) = [.inl 0] := by rw [pys_nil, PySem.W.keyToksAll]
theorem toks_int (i : Int) : toks (.int i) = [.inl i] := by
  unfold toks
  rw [D.py, PySem.W.keyToks]
theorem toks_str (x : Str) : toks (.str x) = [.inr x.cps.toList] := by
  unfold toks
  rw [D.py, PySem.W.keyToks]
theorem toks_pairL (p : Row × Nat) : toks (pairL p) = toks (pairK p) := by
  unfold pairL pairK keyR
  simp only [toks_tup, toks_lst, toksAll_cons]
/-- the tokens of a place -/
def plT : Vl → Int × Int × List Nat
  | .non => (0, 0, [])
  | .int i => (1, i, [])
  | .str x => (2, 0, x.1.cps.toList)
theorem plT_inj {v u : Vl} (h : plT v = plT u) : v = u := by
  cases v <;> cases u <;> simp [plT] at h ⊢
  · exact h
  · rename_i x y
    exact Subtype.ext (PySem.W.str_of_cps (Array.toList_inj.mpr h))
theorem empty_cps : ("" : Str).cps.toList = [] := by decide
theorem toks_pl (v : Vl) : toks (plV v) = [.inl 1, .inl (plT v).1, .inl 1, .inl (plT v).2.1, .inl 1, .inr (plT v).2.2, .inl 0] := by
  cases v <;> simp only [plV, Vl.d, placeD, plT] <;> simp only [toks_tup, toksAll_cons, toksAll_nil, toks_int, toks_str, empty_cps] <;> rfl
theorem key_inj : ∀ {r s : Row}, PySem.W.keyToksAll (pys (r.map plV)) = PySem.W.keyToksAll (pys (s.map plV)) → r = s
  | [], [], _ => rfl
  | [], v :: s, h => by
    rw [List.map_nil, List.map_cons, toksAll_nil, toksAll_cons] at h
    simp at h
  | v :: r, [], h => by
    rw [List.map_nil, List.map_cons, toksAll_nil, toksAll_cons] at h
    simp at h
  | v :: r, u :: s, h => by
    rw [List.map_cons, List.map_cons, toksAll_cons, toksAll_cons, toks_pl, toks_pl] at h
    simp only [List.cons_append, List.nil_append, List.cons.injEq, Sum.inl.injEq, Sum.inr.injEq, true_and] at h
    obtain ⟨h1, h2, h3, h4⟩ := h
    rw [plT_inj (Prod.ext h1 (Prod.ext h2 h3)), key_inj h4]
theorem keyR_inj {r s : Row} (h : toks (keyR r) = toks (keyR s)) : r = s := by
  unfold keyR at h
  rw [toks_tup, toks_tup] at h
  exact key_inj h
/-- rows in order -/
def leR (r s : Row) : Prop := ltD (keyR s) (keyR r) = false
theorem leR_antisymm {r s : Row} (h : leR r s) (k : leR s r) : r = s := keyR_inj (PyProof.Rows.lex_total (O := PyProof.Rows.itemOrd) _ _ k h)
theorem py_tup (ds : List D) : (D.tup ds).py = .tuple (pys ds) := by rw [D.py]
theorem alike_pl (v u : Vl) : PySem.W.alike (plV v).py (plV u).py = true := by
  cases v <;> cases u <;> simp [plV, placeD, Vl.d, D.py, pys, PySem.W.alike, PySem.W.alikeAll]
theorem alike_pls : ∀ r s : Row, PySem.W.alikeAll (pys (r.map plV)) (pys (s.map plV)) = true
  | [], _ => by rw [List.map_nil, pys_nil, PySem.W.alikeAll]
  | v :: r, [] => by rw [List.map_nil, List.map_cons, pys_nil, pys_cons, PySem.W.alikeAll]
  | v :: r, u :: s => by rw [List.map_cons, List.map_cons, pys_cons, pys_cons, PySem.W.alikeAll, alike_pl, alike_pls r s]; rfl
theorem alike_key (r s : Row) : PySem.W.alike (keyR r).py (keyR s).py = true := by
  unfold keyR
  rw [py_tup, py_tup, PySem.W.alike, alike_pls]
theorem alike_pair (p q : Row × Nat) : alikeD (pairK p) (pairK q) = true := by
  unfold alikeD pairK
  rw [py_tup, py_tup, pys_cons, pys_cons, pys_cons, pys_cons, pys_nil]
  simp [PySem.W.alike, PySem.W.alikeAll, alike_key, D.py]
theorem alike_pairL (p q : Row × Nat) : alikeD (pairL p) (pairL q) = true := by
  unfold alikeD pairL
  rw [py_tup, py_tup, pys_cons, pys_cons, pys_cons, pys_cons, pys_nil]
  simp [PySem.W.alike, PySem.W.alikeAll, alike_pls, D.py]
theorem ordK_le {p q : Row × Nat} (h : ordK p q = true) : leR p.1 q.1 := by
  unfold ordK at h
  unfold leR
  have e : ltD (pairK q) (pairK p) = false := by simpa using h
  unfold ltD pairK at e
  rw [py_tup, py_tup, pys_cons, pys_cons, pys_cons, pys_cons, pys_nil, PySem.W.dataLt_pair (alike_key q.1 p.1) (by simp [D.py, PySem.W.alike])] at e
  split at e
  · rename_i z
    rw [ltD_toks]
    show PyProof.Rows.lexLt PyProof.Rows.itemOrd (PySem.W.keyToks (keyR q.1).py) (PySem.W.keyToks (keyR p.1).py) = false
    rw [(PySem.W.toks_eqv _ _ (alike_key q.1 p.1)).1 z]
    exact PyProof.Rows.lex_irrefl _
  · exact e
theorem bagR_perm_self (rs : List Row) : (bagR rs).Perm rs := by
  unfold bagR
  have h := (List.mergeSort_perm rs.zipIdx ordK).map (·.1)
  rwa [show rs.zipIdx.map (·.1) = rs from List.zipIdx_map_fst 0 rs] at h
theorem bagR_sorted (rs : List Row) : (bagR rs).Pairwise leR := by
  unfold bagR
  rw [List.pairwise_map]
  exact (List.pairwise_mergeSort ordK_trans ordK_total rs.zipIdx).imp fun h => ordK_le h
/-- bags of the same rows are the same -/
theorem bagR_eq {rs ss : List Row} (h : rs.Perm ss) : bagR rs = bagR ss :=
  List.Perm.eq_of_pairwise (le := leR) (fun _ _ _ _ h k => leR_antisymm h k) (bagR_sorted rs) (bagR_sorted ss) (((bagR_perm_self rs).trans h).trans (bagR_perm_self ss).symm)
theorem bagR_length (rs : List Row) : (bagR rs).length = rs.length := (bagR_perm_self rs).length_eq
/-! ### sorting, as the two defs do it -/
theorem sort_pairK (rs : List Row) : sortD (rs.zipIdx.map pairK) = (rs.zipIdx.mergeSort ordK).map pairK := by
  unfold sortD
  exact (List.map_mergeSort (r := ordK) (s := fun a b => !ltD b a) (f := pairK) fun a _ b _ => rfl).symm
theorem sort_pairL (rs : List Row) : sortD (rs.zipIdx.map pairL) = (rs.zipIdx.mergeSort ordK).map pairL := by
  unfold sortD
  refine (List.map_mergeSort (r := ordK) (s := fun a b => !ltD b a) (f := pairL) fun a _ b _ => ?_).symm
  show (!ltD (pairK b) (pairK a)) = !ltD (pairL b) (pairL a)
  rw [ltD_toks, ltD_toks, toks_pairL, toks_pairL]
theorem sorted_at (rs : List Row) {p : Row × Nat} (h : p ∈ rs.zipIdx.mergeSort ordK) : rs[p.2]? = some p.1 := by
  have h := (List.mergeSort_perm rs.zipIdx ordK).mem_iff.mp h
  obtain ⟨r, k⟩ := p
  have := List.mem_zipIdx' h
  obtain ⟨h1, h2⟩ := this
  rw [List.getElem?_eq_getElem h1, h2]
end Bg

set_option Elab.async false
set_option linter.all false
set_option maxRecDepth 100000
/-! Counting rows; equality and keys of rows. -/
namespace Bg
open PySem L2 Dv

/-! ### shape, equality -/
theorem shp_vl (v : Vl) (n : Nat) : shp n v.d = true := by
  cases v with
  | non => cases n <;> rfl
  | int i => cases n <;> rfl
  | str x => cases n <;> exact x.2
theorem shp_row (r : Row) (n : Nat) : shp (n + 1) (rowD r) = true := by
  rw [rowD, shp, List.all_eq_true]
  intro d hd
  obtain ⟨v, _, rfl⟩ := List.mem_map.mp hd
  exact shp_vl v n
theorem shp_bag (rs : List Row) (n : Nat) : shp (n + 2) (bagD rs) = true := by
  rw [bagD, shp, List.all_eq_true]
  intro d hd
  obtain ⟨v, _, rfl⟩ := List.mem_map.mp hd
  exact shp_row v n
theorem eqD_vl (v u : Vl) : eqD v.d u.d = decide (v = u) := by
  cases v <;> cases u <;> simp only [eqD, Vl.d, D.py, PyData.eqv, reduceCtorEq, decide_false, decide_true, Vl.int.injEq, Vl.str.injEq]
  · rfl
  · rename_i x y
    by_cases h : x = y
    · subst h; simp
    · have : ¬ x.1 = y.1 := fun z => h (Subtype.ext z)
      simp [h, this]
theorem eqA_row : ∀ r s : Row, PyData.eqvAll (pys (r.map Vl.d)) (pys (s.map Vl.d)) = decide (r = s)
  | [], [] => by simp [pys, PyData.eqvAll]
  | [], _ :: _ => by simp [pys, PyData.eqvAll]
  | _ :: _, [] => by simp [pys, PyData.eqvAll]
  | v :: r, u :: s => by
    rw [List.map_cons, List.map_cons, pys_cons, pys_cons, PyData.eqvAll, eqA_row r s]
    have := eqD_vl v u
    rw [eqD] at this
    rw [this]
    simp
theorem eqD_row (r s : Row) : eqD (rowD r) (rowD s) = decide (r = s) := by
  rw [eqD, rowD, rowD, py_tup, py_tup, PyData.eqv, eqA_row]
theorem eqA_bag : ∀ r s : List Row, PyData.eqvAll (pys (r.map rowD)) (pys (s.map rowD)) = decide (r = s)
  | [], [] => by simp [pys, PyData.eqvAll]
  | [], _ :: _ => by simp [pys, PyData.eqvAll]
  | _ :: _, [] => by simp [pys, PyData.eqvAll]
  | v :: r, u :: s => by
    rw [List.map_cons, List.map_cons, pys_cons, pys_cons, PyData.eqvAll, eqA_bag r s]
    have := eqD_row v u
    rw [eqD] at this
    rw [this]
    simp
theorem eqD_bag (r s : List Row) : eqD (bagD r) (bagD s) = decide (r = s) := by
  rw [eqD, bagD, bagD, py_tup, py_tup, PyData.eqv, eqA_bag]
theorem inD_row (r : Row) (rs : List Row) : inD (rowD r) (rs.map rowD) = decide (r ∈ rs) := by
  rw [inD, List.any_map]
  induction rs with
  | nil => simp
  | cons s rs ih =>
    rw [List.any_cons, ih]
    show (eqD (rowD s) (rowD r) || _) = _
    rw [eqD_row]
    by_cases h : s = r <;> by_cases h2 : r ∈ rs <;> simp [h, h2]
    exact fun z => h z.symm
theorem rem_row (r : Row) (rs : List Row) : remD (rowD r) (rs.map rowD) = (rs.erase r).map rowD := by
  unfold remD Dv.placeD
  induction rs with
  | nil => rfl
  | cons s rs ih =>
    rw [List.map_cons, List.findIdx_cons, eqD_row, List.erase_cons]
    by_cases h : s = r
    · simp [h]
    · simp only [h, decide_false, cond_false, List.eraseIdx_cons_succ, List.map_cons]
      rw [ih]
      have : (s == r) = false := by simpa using h
      rw [this]
      rfl
/-! ### keys -/
def Vl.k : Vl → NestedKey
  | .non => .none
  | .int i => .num i
  | .str x => .text x.1
theorem nk_vl (v : Vl) : nk v.d = some v.k := by cases v <;> simp [Vl.d, Vl.k, nk]
theorem vlk_inj {v u : Vl} (h : v.k = u.k) : v = u := by
  cases v <;> cases u <;> simp [Vl.k] at h ⊢
  · exact h
  · exact Subtype.ext h
theorem nks_row : ∀ r : Row, nk.nks (r.map Vl.d) = some (r.map Vl.k)
  | [] => by simp [nk.nks]
  | v :: r => by rw [List.map_cons, nk.nks, nk_vl, nks_row r]; rfl
def rowK (r : Row) : NestedKey := .tup (r.map Vl.k)
theorem nk_row (r : Row) : nk (rowD r) = some (rowK r) := by rw [rowD, nk, nks_row]; rfl
theorem rowK_inj {r s : Row} (h : rowK r = rowK s) : r = s := by
  unfold rowK at h
  simp only [NestedKey.tup.injEq] at h
  exact List.map_inj_right (f := Vl.k) (fun _ _ => vlk_inj) |>.mp h
/-! ### counts -/
/-- the rows, each once, in the order they come -/
def firsts (rs : List Row) : List Row := rs.foldl (fun acc r => if r ∈ acc then acc else acc ++ [r]) []
theorem firsts_snoc (rs : List Row) (r : Row) : firsts (rs ++ [r]) = if r ∈ firsts rs then firsts rs else firsts rs ++ [r] := by
  unfold firsts
  rw [List.foldl_append]
  rfl
theorem firsts_go (s : Row) : ∀ (vs acc : List Row), s ∈ vs.foldl (fun acc r => if r ∈ acc then acc else acc ++ [r]) acc ↔ s ∈ acc ∨ s ∈ vs := by
  intro vs
  induction vs with
  | nil => intro acc; simp
  | cons v vs ih =>
    intro acc
    rw [List.foldl_cons, ih]
    by_cases h : v ∈ acc
    · rw [if_pos h]
      constructor
      · rintro (z | z)
        · exact .inl z
        · exact .inr (by simp [z])
      · rintro (z | z)
        · exact .inl z
        · rcases List.mem_cons.mp z with y | y
          · exact .inl (y ▸ h)
          · exact .inr y
    · rw [if_neg h]
      simp [or_assoc]
theorem firsts_mem (rs : List Row) (r : Row) : r ∈ firsts rs ↔ r ∈ rs := by
  unfold firsts
  rw [firsts_go]
  simp
theorem firsts_nodup (rs : List Row) : (firsts rs).Nodup := by
  rw [← List.reverse_reverse rs]
  generalize rs.reverse = us
  induction us with
  | nil => simp [firsts]
  | cons s us ih =>
    rw [List.reverse_cons, firsts_snoc]
    by_cases h : s ∈ firsts us.reverse
    · rw [if_pos h]; exact ih
    · rw [if_neg h, List.nodup_append]
      refine ⟨ih, by simp, fun a ha b hb => ?_⟩
      simp at hb
      subst hb
      exact fun z => h (z ▸ ha)
/-- as many of each -/
def spread (rs : List Row) (f : Row → Nat) : List Row := rs.flatMap fun r => List.replicate (f r) r
theorem count_spread {rs : List Row} (hn : rs.Nodup) (f : Row → Nat) (r : Row) : (spread rs f).count r = if r ∈ rs then f r else 0 := by
  unfold spread
  induction rs with
  | nil => simp
  | cons s rs ih =>
    rw [List.nodup_cons] at hn
    rw [List.flatMap_cons, List.count_append, ih hn.2, List.count_replicate]
    by_cases h : s = r
    · subst h
      simp [hn.1]
    · have h' : ¬ r = s := fun z => h z.symm
      simp [h, h']
/-- what is left of one when the rows of other are taken from it, one by one -/
def lessGo : List Row → List Row → List Row
  | _, [] => []
  | left, r :: rs => if r ∈ left then lessGo (left.erase r) rs else r :: lessGo left rs
theorem count_lessGo (r : Row) : ∀ (one left : List Row), (lessGo left one).count r = one.count r - left.count r
  | [], left => by simp [lessGo]
  | s :: one, left => by
    rw [lessGo]
    by_cases h : s ∈ left
    · rw [if_pos h, count_lessGo r one, List.count_cons, List.count_erase]
      have : 0 < left.count s := List.count_pos_iff.mpr h
      by_cases e : s = r
      · subst e
        simp
        omega
      · have e' : ¬ r = s := fun z => e z.symm
        simp [e, e']
    · rw [if_neg h, List.count_cons, count_lessGo r one, List.count_cons]
      by_cases e : s = r
      · subst e
        have : left.count s = 0 := List.count_eq_zero.mpr h
        simp
        omega
      · simp [e]
theorem less_perm (a b : List Row) : (spread (firsts a) fun r => a.count r - b.count r).Perm (lessGo b a) := by
  rw [List.perm_iff_count]
  intro r
  rw [count_spread (firsts_nodup a), count_lessGo]
  by_cases h : r ∈ firsts a
  · rw [if_pos h]
  · rw [if_neg h]
    have : a.count r = 0 := List.count_eq_zero.mpr fun z => h ((firsts_mem a r).mpr z)
    omega
theorem common_perm (a b : List Row) : (spread (firsts a) fun r => min (a.count r) (b.count r)).Perm (lessGo (bagR (lessGo b a)) a) := by
  rw [List.perm_iff_count]
  intro r
  rw [count_spread (firsts_nodup a), count_lessGo, (bagR_perm_self _).count_eq, count_lessGo]
  by_cases h : r ∈ firsts a
  · rw [if_pos h]; omega
  · rw [if_neg h]
    have : a.count r = 0 := List.count_eq_zero.mpr fun z => h ((firsts_mem a r).mpr z)
    omega
end Bg
namespace Bg
open PySem L2 Dv
/-! ### kinds -/
def isNum : D → Bool
  | .int _ => true
  | _ => false
/-- a letter -/
def azD (d : D) : Bool := !ltD d (.str "a") && !ltD (.str "z") d
def isTextD : D → Bool
  | .str x => (signsD x).all azD
  | _ => false
end Bg

set_option Elab.async false
set_option linter.all false
set_option maxRecDepth 100000
/-! What the defs of values and bags meet. -/
namespace Bg
open PySem L2 Dv
theorem vl_raw (v : Vl) : ∀ u, v.d ≠ .raw u := shp_raw (shp_vl v 0)
theorem enum_rows (rs : List Row) : enumD (rs.map rowD) = rs.zipIdx.map fun p => .tup [.int (p.2 : Nat), rowD p.1] := by
  unfold enumD
  rw [List.zipIdx_map, List.map_map]
  rfl
theorem places_row (r : Row) : (r.map Vl.d).map placeD = r.map plV := by rw [List.map_map]; rfl
theorem strOk_empty : PyData.strOk ("" : Str) = true := by decide +kernel
theorem shp_int (n : Nat) (i : Int) : shp n (.int i) = true := by cases n <;> simp [shp]
theorem shp_str (n : Nat) (x : Str) : shp n (.str x) = PyData.strOk x := by cases n <;> simp [shp]
theorem shp_non (n : Nat) : shp n .non = true := by cases n <;> simp [shp]
theorem shp_bl (n : Nat) (b : Bool) : shp n (.bl b) = true := by cases n <;> simp [shp]
theorem shp_pl (v : Vl) (n : Nat) : shp (n + 1) (plV v) = true := by
  cases v <;> simp [plV, Vl.d, placeD, shp, shp_int, shp_str, strOk_empty]
  rename_i x
  exact x.2
theorem shp_pls (r : Row) (n : Nat) : (r.map plV).all (shp (n + 1)) = true := by
  rw [List.all_eq_true]
  intro d hd
  obtain ⟨v, _, rfl⟩ := List.mem_map.mp hd
  exact shp_pl v n
theorem sortOk_pairK (rs : List Row) : SortOk 4 (rs.zipIdx.map pairK) where
  shp := fun x hx => by
    obtain ⟨p, _, rfl⟩ := List.mem_map.mp hx
    rw [pairK, keyR, shp]
    simp only [List.all_cons, List.all_nil, Bool.and_true, shp, shp_pls, Bool.and_self]
  alike := fun x hx y hy => by
    obtain ⟨p, _, rfl⟩ := List.mem_map.mp hx
    obtain ⟨q, _, rfl⟩ := List.mem_map.mp hy
    exact alike_pair p q
  kind := .inl fun x hx => by
    obtain ⟨p, _, rfl⟩ := List.mem_map.mp hx
    exact ⟨_, _, rfl⟩
theorem sortOk_pairL (rs : List Row) : SortOk 4 (rs.zipIdx.map pairL) where
  shp := fun x hx => by
    obtain ⟨p, _, rfl⟩ := List.mem_map.mp hx
    rw [pairL, shp]
    simp only [List.all_cons, List.all_nil, Bool.and_true, shp, shp_pls, Bool.and_self]
  alike := fun x hx y hy => by
    obtain ⟨p, _, rfl⟩ := List.mem_map.mp hx
    obtain ⟨q, _, rfl⟩ := List.mem_map.mp hy
    exact alike_pairL p q
  kind := .inl fun x hx => by
    obtain ⟨p, _, rfl⟩ := List.mem_map.mp hx
    exact ⟨_, _, rfl⟩
def isValD (d : D) : Bool := isN d || isNum d || isTextD d
theorem sign_shp {x : Str} (h : shp 8 (.str x) = true) : ∀ s ∈ signsD x, shp 8 s = true := fun s hs => by
  obtain ⟨k, hk, rfl⟩ := List.mem_map.mp hs
  have h1 : PyData.strOk x = true := h
  show PyData.strOk ⟨#[k]⟩ = true
  unfold PyData.strOk at *
  rw [Array.all_eq_true_iff_forall_mem] at h1
  have := h1 k (by simpa using hk)
  simpa using this
end Bg
namespace Bg
open PySem L2 Dv
def isRowD (d : D) (n : Int) : Bool := match d with
  | .tup xs => decide ((xs.length : Int) = n) && xs.all isValD
  | _ => false
/-- d is a bag of rows of n places -/
def IsBag (d : D) (n : Int) : Prop := ∃ rs, d = bagD rs ∧ (∀ r ∈ rs, isRowD (rowD r) n = true) ∧ bagR rs = rs
theorem val_of {d : D} (hs : shp 8 d = true) (h : isValD d = true) : ∃ v : Vl, d = v.d := by
  cases d with
  | non => exact ⟨.non, rfl⟩
  | int i => exact ⟨.int i, rfl⟩
  | str x => exact ⟨.str ⟨x, by rwa [shp_str] at hs⟩, rfl⟩
  | raw v => exact absurd rfl (shp_raw hs v)
  | _ => cases h
theorem vals_of : ∀ {xs : List D}, (∀ x ∈ xs, shp 8 x = true) → (∀ x ∈ xs, isValD x = true) → ∃ r : Row, xs = r.map Vl.d
  | [], _, _ => ⟨[], rfl⟩
  | x :: xs, hs, h => by
    obtain ⟨v, rfl⟩ := val_of (hs x (by simp)) (h x (by simp))
    obtain ⟨r, rfl⟩ := vals_of (xs := xs) (fun y hy => hs y (by simp [hy])) (fun y hy => h y (by simp [hy]))
    exact ⟨v :: r, rfl⟩
theorem shp_up : ∀ {n : Nat} {d : D}, shp n d = true → shp (n + 1) d = true
  | n, .non, _ => shp_non _
  | n, .bl b, _ => shp_bl _ b
  | n, .int i, _ => shp_int _ i
  | n, .str x, h => by rw [shp_str] at *; exact h
  | 0, .tup xs, h => by simp [shp] at h
  | n + 1, .tup xs, h => by
    rw [shp, List.all_eq_true] at *
    exact fun x hx => shp_up (h x hx)
  | 0, .lst xs, h => by simp [shp] at h
  | n + 1, .lst xs, h => by
    rw [shp, List.all_eq_true] at *
    exact fun x hx => shp_up (h x hx)
  | n, .dic _, h => by cases n <;> simp [shp] at h
  | n, .raw _, h => by cases n <;> simp [shp] at h
theorem shp_le {n m : Nat} {d : D} (h : shp n d = true) (k : n ≤ m) : shp m d = true := by
  induction k with
  | refl => exact h
  | step _ ih => exact shp_up ih
theorem row_of {d : D} {n : Int} (hs : shp 8 d = true) (h : isRowD d n = true) : ∃ r : Row, d = rowD r := by
  cases d with
  | tup xs =>
    rw [isRowD, Bool.and_eq_true, List.all_eq_true] at h
    rw [shp, List.all_eq_true] at hs
    obtain ⟨r, rfl⟩ := vals_of (fun x hx => shp_up (hs x hx)) h.2
    exact ⟨r, rfl⟩
  | _ => cases h
theorem rows_of {n : Int} : ∀ {xs : List D}, (∀ x ∈ xs, shp 8 x = true) → (∀ x ∈ xs, isRowD x n = true) → ∃ rs : List Row, xs = rs.map rowD
  | [], _, _ => ⟨[], rfl⟩
  | x :: xs, hs, h => by
    obtain ⟨v, rfl⟩ := row_of (hs x (by simp)) (h x (by simp))
    obtain ⟨r, rfl⟩ := rows_of (xs := xs) (fun y hy => hs y (by simp [hy])) (fun y hy => h y (by simp [hy]))
    exact ⟨v :: r, rfl⟩
theorem rowD_inj {r s : Row} (h : rowD r = rowD s) : r = s := by
  have := eqD_row r s
  rw [h] at this
  have e := eqD_row s s
  rw [this] at e
  simpa using e
theorem bagD_inj {rs ss : List Row} (h : bagD rs = bagD ss) : rs = ss := by
  have := eqD_bag rs ss
  rw [h] at this
  have e := eqD_bag ss ss
  rw [this] at e
  simpa using e
/-- a truth value or None -/
def isTr : D → Bool
  | .non => true
  | .bl _ => true
  | _ => false
def sameV (a b : Vl) : D := if a = .non ∨ b = .non then .non else .bl (decide (a = b))
def belowV (a b : Vl) : D := if a = .non ∨ b = .non then .non else .bl (ltD (plV a) (plV b))
def noD : D → D
  | .bl b => .bl (!b)
  | _ => .non
def bothD : D → D → D
  | .bl false, _ => .bl false
  | _, .bl false => .bl false
  | .bl true, .bl true => .bl true
  | _, _ => .non
def eitherD : D → D → D
  | .bl true, _ => .bl true
  | _, .bl true => .bl true
  | .bl false, .bl false => .bl false
  | _, _ => .non
end Bg

set_option Elab.async false
set_option linter.all false
set_option maxRecDepth 100000
/-! Dicts of rows. -/
namespace Bg
open PySem L2 Dv
/-- a dict by rows -/
def rowsD (fs : List Row) (f : Row → D) : List (D × D) := fs.map fun r => (rowD r, f r)
theorem tupK_rows (fs : List Row) (f : Row → D) : tupK (rowsD fs f) := fun p hp => by
  obtain ⟨r, _, rfl⟩ := List.mem_map.mp hp
  exact ⟨shp_row r 7, _, rfl⟩
theorem dfind_rows (f : Row → D) (r : Row) : ∀ fs : List Row, dfind (rowsD fs f) (rowK r) = if r ∈ fs then some (f r) else none
  | [] => rfl
  | s :: fs => by
    have ih := dfind_rows f r fs
    unfold dfind rowsD at *
    rw [List.map_cons, List.find?_cons]
    simp only [nk_row]
    by_cases h : s = r
    · subst h; simp
    · have h1 : ¬ some (rowK s) = some (rowK r) := fun z => h (rowK_inj (Option.some.inj z))
      have h2 : ¬ r = s := fun z => h z.symm
      simp only [h1, decide_false]
      rw [ih]
      simp [h2]
theorem dput_rows (fs : List Row) (f : Row → D) (r : Row) (d : D) : dput (rowsD fs f) (rowD r) (rowK r) d = rowsD (if r ∈ fs then fs else fs ++ [r]) (fun s => if s = r then d else f s) := by
  unfold dput
  rw [dfind_rows]
  by_cases h : r ∈ fs
  · rw [if_pos h, if_pos h]
    show List.map _ _ = _
    unfold rowsD
    rw [List.map_map]
    refine List.map_congr_left fun s _ => ?_
    show (if nk (rowD s) = some (rowK r) then (rowD s, d) else (rowD s, f s)) = (rowD s, if s = r then d else f s)
    rw [nk_row]
    by_cases e : s = r
    · subst e; simp
    · have : ¬ some (rowK s) = some (rowK r) := fun z => e (rowK_inj (Option.some.inj z))
      simp [e, this]
  · rw [if_neg h, if_neg h]
    simp only [Option.isSome_none, Bool.false_eq_true, if_false]
    unfold rowsD
    rw [List.map_append, List.map_cons, List.map_nil]
    simp only [if_true]
    congr 1
    refine List.map_congr_left fun s hs => ?_
    have : ¬ s = r := fun z => h (z ▸ hs)
    rw [if_neg this]
/-- the counts of rows -/
def countD (rs : List Row) (r : Row) : D := .int (rs.count r : Nat)
def countsD (rs : List Row) : List (D × D) := rowsD (firsts rs) (countD rs)
theorem counts_snoc (rs : List Row) (r : Row) : dput (countsD rs) (rowD r) (rowK r) (.int ((rs.count r : Nat) + 1)) = countsD (rs ++ [r]) := by
  unfold countsD
  rw [dput_rows, firsts_snoc]
  unfold rowsD
  refine List.map_congr_left fun s _ => ?_
  congr 1
  unfold countD
  rw [List.count_append]
  by_cases h : s = r
  · subst h
    simp
  · have : ¬ r = s := fun z => h z.symm
    simp [h, this]
theorem counts_get (rs : List Row) (r : Row) : (dfind (countsD rs) (rowK r)).getD (.int 0) = .int (rs.count r : Nat) := by
  unfold countsD
  rw [dfind_rows]
  by_cases h : r ∈ firsts rs
  · rw [if_pos h]; rfl
  · rw [if_neg h]
    have : rs.count r = 0 := List.count_eq_zero.mpr fun z => h ((firsts_mem rs r).mpr z)
    rw [this]
    rfl
theorem firsts_len (rs : List Row) : (firsts rs).length ≤ rs.length := by
  rw [← List.reverse_reverse rs]
  generalize rs.reverse = us
  induction us with
  | nil => simp [firsts]
  | cons s us ih =>
    rw [List.reverse_cons, firsts_snoc, List.length_append]
    split
    · omega
    · rw [List.length_append]; simpa using ih
theorem countsD_len (rs : List Row) : (countsD rs).length ≤ rs.length := by
  unfold countsD rowsD
  rw [List.length_map]
  exact firsts_len rs
theorem dmerge_go (f : Row → D) : ∀ (fs gs : List Row), (gs ++ fs).Nodup → dmerge (rowsD gs f) (rowsD fs f) = rowsD (gs ++ fs) f
  | [], gs, _ => by rw [List.append_nil]; rfl
  | r :: fs, gs, h => by
    have hr : r ∉ gs := fun z => by
      rw [List.nodup_append] at h
      exact h.2.2 r z r (by simp) rfl
    have e : dmerge (rowsD gs f) (rowsD (r :: fs) f) = dmerge (dput (rowsD gs f) (rowD r) (rowK r) (f r)) (rowsD fs f) := by
      show List.foldl _ _ _ = List.foldl _ _ _
      unfold rowsD
      rw [List.map_cons, List.foldl_cons, nk_row]
    rw [e, dput_rows, if_neg hr]
    have e2 : rowsD (gs ++ [r]) (fun s => if s = r then f r else f s) = rowsD (gs ++ [r]) f := by
      unfold rowsD
      refine List.map_congr_left fun s _ => ?_
      congr 1
      by_cases z : s = r
      · simp [z]
      · simp [z]
    rw [e2, dmerge_go f fs (gs ++ [r]) (by simpa using h)]
    simp
theorem dmerge_rows (f : Row → D) {fs : List Row} (h : fs.Nodup) : dmerge [] (rowsD fs f) = rowsD fs f := dmerge_go f fs [] (by simpa using h)
theorem lt_pl (a b : Vl) {R : D → Prop} (h : R (.bl (ltD (plV a) (plV b)))) : cmpP (fun i j => decide (i < j)) ltD (placeD a.d) (placeD b.d) R := by
  have key : ∀ d e : D, d = plV a → e = plV b → cmpP (fun i j => decide (i < j)) ltD d e R := fun d e h1 h2 => by
    unfold cmpP
    split
    · exfalso
      cases a <;> cases h1
    · exact ⟨4, by decide, by rw [h1]; exact shp_pl a 3, by rw [h2]; exact shp_pl b 3, by rw [h1, h2]; exact alike_pl a b, by rw [h1]; cases a <;> exact (fun z => nomatch z), by rw [h1, h2]; exact h⟩
  exact key _ _ rfl rfl
end Bg
namespace Bg
open PySem L2 Dv
/-- made of None, truths, numbers, texts and tuples, of at most n - 1 layers -/
def smOk : Nat → D → Bool
  | 0, _ => false
  | _ + 1, .non => true
  | _ + 1, .bl _ => true
  | _ + 1, .int _ => true
  | _ + 1, .str x => PyData.strOk x
  | n + 1, .tup xs => xs.all (smOk n)
  | _ + 1, _ => false
theorem smOk_shp : ∀ {n : Nat} {d : D}, smOk n d = true → shp n d = true
  | 0, _, h => by simp [smOk] at h
  | n + 1, .non, _ => shp_non _
  | n + 1, .bl _, _ => shp_bl _ _
  | n + 1, .int _, _ => shp_int _ _
  | n + 1, .str x, h => by rw [shp_str]; rw [smOk] at h; exact h
  | n + 1, .tup xs, h => by
    rw [smOk, List.all_eq_true] at h
    rw [shp, List.all_eq_true]
    exact fun x hx => smOk_shp (h x hx)
  | n + 1, .lst _, h => by simp [smOk] at h
  | n + 1, .dic _, h => by simp [smOk] at h
  | n + 1, .raw _, h => by simp [smOk] at h
end Bg
namespace Bg
open PySem L2 Dv
theorem eqvAll_refl : ∀ {ds : List D}, (∀ d ∈ ds, PyData.eqv d.py d.py = true) → PyData.eqvAll (pys ds) (pys ds) = true
  | [], _ => by simp [pys, PyData.eqvAll]
  | d :: ds, h => by
    rw [pys_cons, PyData.eqvAll, h d (by simp), eqvAll_refl fun x hx => h x (by simp [hx])]
    rfl
theorem smOk_eq : ∀ {n : Nat} {d : D}, smOk n d = true → eqD d d = true
  | 0, _, h => by simp [smOk] at h
  | n + 1, .non, _ => by simp [eqD, D.py, PyData.eqv]
  | n + 1, .bl _, _ => by simp [eqD, D.py, PyData.eqv]
  | n + 1, .int _, _ => by simp [eqD, D.py, PyData.eqv]
  | n + 1, .str x, h => by simp [eqD, D.py, PyData.eqv]
  | n + 1, .tup xs, h => by
    rw [smOk, List.all_eq_true] at h
    rw [eqD, py_tup, PyData.eqv]
    exact eqvAll_refl fun x hx => smOk_eq (h x hx)
  | n + 1, .lst _, h => by simp [smOk] at h
  | n + 1, .dic _, h => by simp [smOk] at h
  | n + 1, .raw _, h => by simp [smOk] at h
theorem eq_int (i j : Int) : eqD (.int i) (.int j) = decide (i = j) := by simp [eqD, D.py, PyData.eqv]; rfl
theorem eq_bl (a b : Bool) : eqD (.bl a) (.bl b) = (a == b) := by simp [eqD, D.py, PyData.eqv]
theorem eq_nil (xs : List D) : eqD (.lst xs) (.lst []) = xs.isEmpty := by cases xs <;> simp [eqD, D.py, PyData.eqv, pys, PyData.eqvAll]
theorem shp_lst (n : Nat) (xs : List D) : shp (n + 1) (.lst xs) = xs.all (shp n) := by rw [shp]
theorem shp_tup (n : Nat) (xs : List D) : shp (n + 1) (.tup xs) = xs.all (shp n) := by rw [shp]
end Bg
namespace Bg
open PySem L2 Dv
def atL (rs : List Row) (j : Nat) : D := match rs[j]? with
  | some r => pairL (r, j)
  | none => .non
theorem atL_eq {rs : List Row} {j : Nat} {r : Row} (h : rs[j]? = some r) : atL rs j = pairL (r, j) := by
  unfold atL
  rw [h]
theorem range_atL (rs : List Row) : (List.range rs.length).map (atL rs) = rs.zipIdx.map pairL := by
  refine List.ext_getElem? fun j => ?_
  rw [List.getElem?_map, List.getElem?_map, List.getElem?_zipIdx]
  by_cases h : j < rs.length
  · rw [List.getElem?_range h, List.getElem?_eq_getElem h]
    simp only [Option.map_some]
    rw [atL_eq (List.getElem?_eq_getElem h)]
    simp
  · rw [List.getElem?_eq_none (by simpa using h), List.getElem?_eq_none (by simpa using h)]
    rfl
end Bg
namespace Bg
open PySem L2 Dv
/-- a tuple of n places -/
def widD (n : Int) (d : D) : Bool := match d with
  | .tup ys => decide ((ys.length : Int) = n)
  | _ => false
theorem wid_row {d : D} {n : Int} (h : isRowD d n = true) : widD n d = true := by
  cases d with
  | tup xs =>
    rw [isRowD, Bool.and_eq_true] at h
    exact h.1
  | _ => cases h
end Bg
namespace Bg
open PySem L2 Dv
/-- the values that the law puts into rows -/
def txV (x : Str) (h : PyData.strOk x = true) : Vl := .str ⟨x, h⟩
def pickV : List Vl := [.non, .int 0, .int (-2), .int 7, txV "" (by decide +kernel), txV "a" (by decide +kernel), txV "ab" (by decide +kernel), txV "b" (by decide +kernel)]
end Bg
namespace Bg
open PySem L2 Dv
/-- what may be bent: None, numbers, texts, tuples of at most 1000, of at most n - 1 layers -/
def bnOk : Nat → D → Bool
  | 0, _ => false
  | _ + 1, .non => true
  | _ + 1, .int _ => true
  | _ + 1, .str x => PyData.strOk x
  | n + 1, .tup xs => decide (xs.length ≤ 1000) && xs.all (bnOk n)
  | _ + 1, _ => false
theorem bnOk_shp : ∀ {n : Nat} {d : D}, bnOk n d = true → shp n d = true
  | 0, _, h => by simp [bnOk] at h
  | n + 1, .non, _ => shp_non _
  | n + 1, .bl _, h => by simp [bnOk] at h
  | n + 1, .int _, _ => shp_int _ _
  | n + 1, .str x, h => by rw [shp_str]; rw [bnOk] at h; exact h
  | n + 1, .tup xs, h => by
    rw [bnOk, Bool.and_eq_true, List.all_eq_true] at h
    rw [shp, List.all_eq_true]
    exact fun x hx => bnOk_shp (h.2 x hx)
  | n + 1, .lst _, h => by simp [bnOk] at h
  | n + 1, .dic _, h => by simp [bnOk] at h
  | n + 1, .raw _, h => by simp [bnOk] at h
theorem mem_cutD {xs : List D} {lo hi : Option Int} {x : D} (h : x ∈ cutD xs lo hi) : x ∈ xs := by
  unfold cutD at h
  exact List.mem_of_mem_drop (List.mem_of_mem_take h)
theorem bn_row (r : Row) (n : Nat) (h : r.length ≤ 1000) : bnOk (n + 2) (rowD r) = true := by
  rw [rowD, bnOk, Bool.and_eq_true, List.all_eq_true]
  refine ⟨by simpa using h, fun d hd => ?_⟩
  obtain ⟨v, _, rfl⟩ := List.mem_map.mp hd
  cases v with
  | non => rfl
  | int i => rfl
  | str x => exact x.2
theorem bn_bag (rs : List Row) (n : Nat) (h : rs.length ≤ 1000) (k : ∀ r ∈ rs, r.length ≤ 1000) : bnOk (n + 3) (bagD rs) = true := by
  rw [bagD, bnOk, Bool.and_eq_true, List.all_eq_true]
  refine ⟨by simpa using h, fun d hd => ?_⟩
  obtain ⟨r, hr, rfl⟩ := List.mem_map.mp hd
  exact bn_row r n (k r hr)
end Bg
namespace Bg
open PySem L2 Dv
theorem addP_bag (A B : List Row) (R : D → Prop) : addP (bagD A) (bagD B) R = (A.length + B.length ≤ sizeLine ∧ R (bagD (A ++ B))) := by
  unfold bagD
  rw [addP_tup, List.length_map, List.length_map, List.map_append]
theorem sm_vl (v : Vl) (n : Nat) : smOk (n + 1) v.d = true := by
  cases v with
  | non => rfl
  | int i => rfl
  | str x => exact x.2
theorem sm_row (r : Row) (n : Nat) : smOk (n + 2) (rowD r) = true := by
  rw [rowD, smOk, List.all_eq_true]
  intro d hd
  obtain ⟨v, _, rfl⟩ := List.mem_map.mp hd
  exact sm_vl v n
theorem sm_bag (rs : List Row) (n : Nat) : smOk (n + 3) (bagD rs) = true := by
  rw [bagD, smOk, List.all_eq_true]
  intro d hd
  obtain ⟨v, _, rfl⟩ := List.mem_map.mp hd
  exact sm_row v n
theorem lessGo_len : ∀ (one left : List Row), (lessGo left one).length ≤ one.length
  | [], left => by simp [lessGo]
  | r :: one, left => by
    rw [lessGo]
    split
    · have := lessGo_len one (left.erase r)
      simp
      omega
    · have := lessGo_len one left
      simp
      omega
def atR (A : List Row) (k : Nat) : Row := A[k]?.getD []
theorem firsts_range (A : List Row) : ((List.range A.length).filter fun k => decide (atR A k ∉ A.take k)).map (atR A) = firsts A := by
  rw [← List.reverse_reverse A]
  generalize A.reverse = us
  induction us with
  | nil => rfl
  | cons r us ih =>
    rw [List.reverse_cons]
    generalize us.reverse = B at *
    have e1 : (B ++ [r]).length = B.length + 1 := by simp
    have e2 : ∀ k, k < B.length → atR (B ++ [r]) k = atR B k := fun k hk => by
      unfold atR
      rw [List.getElem?_append_left hk]
    have e3 : ∀ k, k < B.length → (B ++ [r]).take k = B.take k := fun k hk => List.take_append_of_le_length (by omega)
    have e4 : (List.range B.length).filter (fun k => decide (atR (B ++ [r]) k ∉ (B ++ [r]).take k)) = (List.range B.length).filter fun k => decide (atR B k ∉ B.take k) := by
      refine List.filter_congr fun k hk => ?_
      have hk : k < B.length := by simpa using hk
      rw [e2 k hk, e3 k hk]
    have e5 : ((List.range B.length).filter fun k => decide (atR B k ∉ B.take k)).map (atR (B ++ [r])) = firsts B := by
      rw [← ih]
      refine List.map_congr_left fun k hk => ?_
      have hk : k < B.length := by simpa using (List.mem_filter.mp hk).1
      exact e2 k hk
    have e6 : atR (B ++ [r]) B.length = r := by simp [atR]
    have e7 : (B ++ [r]).take B.length = B := by simp
    rw [e1, List.range_succ, List.filter_append, List.map_append, e4, e5, firsts_snoc, List.filter_cons, e6, e7]
    by_cases h : r ∈ B
    · rw [if_neg (by simpa using h), if_pos ((firsts_mem B r).mpr h)]
      simp
    · rw [if_pos (by simpa using h), if_neg (fun z => h ((firsts_mem B r).mp z))]
      simp [e6]
end Bg
namespace Bg
open PySem L2 Dv
theorem cut_take (xs : List D) {k : Nat} (h : k ≤ xs.length) : cutD xs none (some (k : Int)) = xs.take k := by
  unfold cutD
  rw [HT.sIx_none, HT.sIx_nat, Nat.min_eq_left h]
  simp
theorem sm_pl (v : Vl) (n : Nat) : smOk (n + 2) (plV v) = true := by
  cases v <;> simp [plV, Vl.d, placeD, smOk, strOk_empty]
  rename_i x
  exact x.2
theorem isN_vl (v : Vl) : isN v.d = decide (v = .non) := by cases v <;> rfl
theorem atR_eq {A : List Row} {k : Nat} (h : k < A.length) : A[k]? = some (atR A k) := by
  unfold atR
  rw [List.getElem?_eq_getElem h]
  rfl
theorem count_filter (rs : List Row) (r : Row) : (rs.filter fun s => decide (s = r)).length = rs.count r := by
  rw [← List.countP_eq_length_filter, List.count]
  congr 1
  funext s
  rw [Bool.eq_iff_iff]
  simp
end Bg

set_option Elab.async false
set_option linter.all false
/-! Plain facts of codes. -/
namespace Bg
open PySem L2 Dv
def isBelow (d : D) (n : Int) : Bool := match d with
  | .int i => decide (0 ≤ i) && decide (i < n)
  | _ => false
def isLineD (d : D) : Bool := match d with
  | .tup xs => xs.all fun x => isBelow x 256
  | _ => false
/-- a number as signs, the low ones first: 7 bits each, the last below 128 -/
def digs (n : Nat) : List Nat := if h : n < 128 then [n] else (n % 128 + 128) :: digs (n / 128)
termination_by n
decreasing_by omega
/-- a whole number without its sign -/
def zig (n : Int) : Nat := if n ≥ 0 then (2 * n).toNat else (-2 * n - 1).toNat
def codeN (n : Int) : List Int := (digs (zig n)).map fun k => ((k : Nat) : Int)
end Bg
namespace Bg
open PySem L2 Dv
theorem digs_lt {n : Nat} (h : n < 128) : digs n = [n] := by rw [digs, dif_pos h]
theorem digs_ge {n : Nat} (h : ¬ n < 128) : digs n = (n % 128 + 128) :: digs (n / 128) := by rw [digs, dif_neg h]
theorem digs_len : ∀ (k n : Nat), n < 128 ^ (k + 1) → (digs n).length ≤ k + 1
  | 0, n, h => by rw [digs_lt (by simpa using h)]; simp
  | k + 1, n, h => by
    by_cases h1 : n < 128
    · rw [digs_lt h1]; simp
    · rw [digs_ge h1, List.length_cons]
      have := digs_len k (n / 128) (by
        rw [Nat.pow_succ] at h
        exact Nat.div_lt_of_lt_mul (by rw [Nat.mul_comm]; exact h))
      omega
theorem zig_lt {n : Int} (h : n.natAbs < 2 ^ 64) : zig n < 128 ^ 10 := by
  unfold zig
  have e : (128 : Nat) ^ 10 = 1180591620717411303424 := by decide
  split <;> omega
theorem codeN_len {n : Int} (h : n.natAbs < 2 ^ 64) : (codeN n).length ≤ 10 := by
  unfold codeN
  rw [List.length_map]
  exact digs_len 9 _ (zig_lt h)
theorem zig_pos {n : Int} (h : 0 ≤ n) : 2 * n = ((zig n : Nat) : Int) := by unfold zig; rw [if_pos h]; omega
theorem zig_neg {n : Int} (h : ¬ 0 ≤ n) : -2 * n - 1 = ((zig n : Nat) : Int) := by unfold zig; rw [if_neg h]; omega
end Bg
namespace Bg
open PySem L2 Dv
/-- reading a number's signs, the low ones first: what it is and where it ends -/
def readGo (xs : List Nat) (k found unit : Nat) : Option (Nat × Nat) :=
  if h : k < xs.length then
    if xs[k] < 128 then
      if xs[k] = 0 ∧ 128 < unit * 128 then none else some (found + xs[k] % 128 * unit, k + 1)
    else readGo xs (k + 1) (found + xs[k] % 128 * unit) (unit * 128)
  else none
termination_by xs.length - k
def zag (n : Nat) : Int := if n % 2 = 0 then ((n / 2 : Nat) : Int) else -((n / 2 : Nat) : Int) - 1
def readN (xs : List Nat) (k : Nat) : Option (Int × Nat) := (readGo xs k 0 1).map fun p => (zag p.1, p.2)
def lineD (xs : List Nat) : D := .tup (xs.map fun (b : Nat) => .int b)
/-- what a reader tells -/
def tells (C : Addr) (o : Option (D × Nat)) (R : D → Unit → Prop) (RE : Value → Unit → Prop) : Prop := match o with
  | some (d, n) => R (.tup [d, .int n]) ()
  | none => RE (.ref C) ()
theorem log_pow (j : Nat) : ((128 ^ j : Nat) : Int).natAbs.log2 = 7 * j := by
  rw [Int.natAbs_natCast, show (128 : Nat) = 2 ^ 7 by decide, ← Nat.pow_mul, Nat.log2_two_pow]
end Bg
namespace Bg
open PySem L2 Dv
/-- a count that the line can hold -/
def readM (xs : List Nat) (k : Nat) : Option (Int × Nat) := match readN xs k with
  | some (v, p) => if 0 ≤ v ∧ v ≤ (xs.length : Int) - p then some (v, p) else none
  | none => none
end Bg

set_option Elab.async false
set_option linter.all false
set_option maxRecDepth 100000
/-! Texts of letters; values, their codes, and reading them back. -/
namespace Bg
open PySem L2 Dv
abbrev Lt := Fin 26
/-- a text of letters -/
def txS (ks : List Lt) : Str := ⟨(ks.map fun k => 97 + k.val).toArray⟩
def letS (k : Nat) : Str := ⟨#[97 + k]⟩
def LET : Str := "abcdefghijklmnopqrstuvwxyz"
theorem txS_len (ks : List Lt) : (txS ks).length = ks.length := by simp [txS, Str.length]
theorem signs_txS (ks : List Lt) : signsD (txS ks) = ks.map fun k => .str (letS k.val) := by
  unfold signsD txS letS
  simp
theorem occ_all : ((List.range 26).all fun k => (Builtin.Str.occurrences LET (letS k) 0 LET.length 1).head? == some k) = true := by decide +kernel
theorem occ_let (k : Lt) : ∃ rest, Builtin.Str.occurrences LET (letS k.val) 0 LET.length 1 = k.val :: rest := by
  have h := List.all_eq_true.mp occ_all k.val (List.mem_range.mpr k.isLt)
  have h := beq_iff_eq.mp h
  cases e : Builtin.Str.occurrences LET (letS k.val) 0 LET.length 1 with
  | nil => rw [e] at h; cases h
  | cons a r =>
    rw [e] at h
    cases h
    exact ⟨r, rfl⟩
theorem LET_cps : LET.cps.toList = (List.range 26).map fun k => 97 + k := by decide +kernel
theorem ix_let {k : Nat} (h : k < 26) : ixD (.str LET) (k : Nat) = some (.str (letS k)) := by
  show (atI LET.cps.toList (k : Nat)).map (fun k => D.str ⟨#[k]⟩) = _
  rw [L2.atI_nat (v := 97 + k)]
  · rfl
  · rw [LET_cps, List.getElem?_map, List.getElem?_range h]
    rfl
theorem sapp_len (p q : Str) : (p ++ q).length = p.length + q.length := by
  show (p.cps ++ q.cps).size = _
  rw [Array.size_append]
  rfl
theorem sjoin_len : ∀ (ys : List Str) (a : Str), (Str.join a ys).length ≤ (ys.map (·.length)).sum + ys.length * a.length
  | [], a => Nat.zero_le _
  | [y], a => by
    show y.length ≤ _
    simp
  | y :: z :: ys, a => by
    have h := sjoin_len (z :: ys) a
    show (y ++ a ++ Str.join a (z :: ys)).length ≤ _
    rw [sapp_len, sapp_len]
    simp only [List.map_cons, List.sum_cons, List.length_cons] at h ⊢
    have : (ys.length + 1 + 1) * a.length = (ys.length + 1) * a.length + a.length := Nat.succ_mul _ _
    omega
theorem join_len (ys : List Str) (a : Str) : (Txt.join a ys).length ≤ (ys.map (·.length)).sum + ys.length * a.length := by
  rw [TL.join_eq]
  exact sjoin_len ys a
theorem str_ext {p q : Str} (h : p.cps.toList = q.cps.toList) : p = q := by
  obtain ⟨p⟩ := p
  obtain ⟨q⟩ := q
  exact congrArg _ (Array.toList_inj.mp h)
theorem sapp_cps (p q : Str) : (p ++ q).cps.toList = p.cps.toList ++ q.cps.toList := by
  show (p.cps ++ q.cps).toList = _
  rw [Array.toList_append]
theorem txS_cps (ks : List Lt) : (txS ks).cps.toList = ks.map fun k => 97 + k.val := by simp [txS]
theorem txS_snoc (ks : List Lt) (k : Lt) : txS ks ++ letS k.val = txS (ks ++ [k]) := str_ext (by
  rw [sapp_cps, txS_cps, txS_cps, List.map_append]
  rfl)
theorem txS_nil : txS [] = ("" : Str) := by decide +kernel
theorem txS_inj {ks ls : List Lt} (h : txS ks = txS ls) : ks = ls := by
  have := congrArg (fun z : Str => z.cps.toList) h
  simp only [txS_cps] at this
  exact (List.map_inj_right (fun a b e => Fin.ext (by omega))).mp this
theorem sjoin_tx : ∀ ks : List Lt, Str.join ("" : Str) (ks.map fun k => letS k.val) = txS ks
  | [] => by decide +kernel
  | [k] => rfl
  | k :: l :: ks => str_ext (by
    have h := congrArg (fun z : Str => z.cps.toList) (sjoin_tx (l :: ks))
    simp only [txS_cps] at h
    show ((letS k.val ++ ("" : Str) ++ Str.join ("" : Str) ((l :: ks).map fun k => letS k.val)) : Str).cps.toList = _
    rw [sapp_cps, sapp_cps, h, txS_cps, show (("" : Str)).cps.toList = [] by decide +kernel]
    rfl)
theorem join_tx (ks : List Lt) : Txt.join ("" : Str) (ks.map fun k => letS k.val) = txS ks := by
  rw [TL.join_eq]
  exact sjoin_tx ks
/-- values of the codes -/
inductive Cv where
  | non
  | num (n : Int)
  | txt (ks : List Lt)
  deriving DecidableEq
def Cv.d : Cv → D
  | .non => .non
  | .num n => .int n
  | .txt ks => .str (txS ks)
abbrev Cr := List Cv
def crD (r : Cr) : D := .tup (r.map Cv.d)
end Bg

set_option Elab.async false
set_option linter.all false
set_option maxRecDepth 100000
/-! Codes of values and rows; reading them back. -/
namespace Bg
open PySem L2 Dv
def codeV : Cv → List Nat
  | .non => [0]
  | .num n => 1 :: digs (zig n)
  | .txt ks => 2 :: (digs (zig (ks.length : Nat)) ++ ks.map (·.val))
def codeR (r : Cr) : List Nat := digs (zig (r.length : Nat)) ++ r.flatMap codeV
def lets : List Nat → Option (List Lt)
  | [] => some []
  | x :: xs => if h : x < 26 then (lets xs).map (⟨x, h⟩ :: ·) else none
def readV (xs : List Nat) (k : Nat) : Option (Cv × Nat) :=
  if h : k < xs.length then
    if 2 < xs[k] then none
    else if xs[k] = 0 then some (.non, k + 1)
    else if xs[k] = 1 then (readN xs (k + 1)).map fun p => (.num p.1, p.2)
    else match readM xs (k + 1) with
      | some (m, q) => (lets ((xs.drop q).take m.toNat)).map fun ks => (.txt ks, q + m.toNat)
      | none => none
  else none
def readVs (xs : List Nat) : Nat → Nat → Option (Cr × Nat)
  | 0, k => some ([], k)
  | m + 1, k => match readV xs k with
    | some (v, q) => (readVs xs m q).map fun p => (v :: p.1, p.2)
    | none => none
def readR (xs : List Nat) (k : Nat) : Option (Cr × Nat) := match readM xs k with
  | some (m, q) => readVs xs m.toNat q
  | none => none

theorem digs_ne (n : Nat) : digs n ≠ [] := by
  by_cases h : n < 128
  · rw [digs_lt h]; simp
  · rw [digs_ge h]; simp
theorem zag_zig (n : Int) : zag (zig n) = n := by
  unfold zag zig
  split <;> split <;> omega
theorem zig_zag (n : Nat) : zig (zag n) = n := by
  unfold zag zig
  split <;> split <;> omega
theorem drop_cons {α : Type} {xs : List α} {k : Nat} {y : α} {ys : List α} (h : xs.drop k = y :: ys) : ∃ hk : k < xs.length, xs[k] = y ∧ xs.drop (k + 1) = ys := by
  have hk : k < xs.length := by
    rcases Nat.lt_or_ge k xs.length with z | z
    · exact z
    · rw [List.drop_eq_nil_of_le z] at h; cases h
  rw [List.drop_eq_getElem_cons hk] at h
  obtain ⟨h1, h2⟩ := List.cons.inj h
  exact ⟨hk, h1, h2⟩
theorem drop_add {α : Type} {xs ys zs : List α} {k : Nat} (h : xs.drop k = ys ++ zs) : xs.drop (k + ys.length) = zs := by
  rw [← List.drop_drop, h, List.drop_left]
/-- a number's signs are read as the number -/
theorem readGo_of : ∀ (n : Nat) (xs ys : List Nat) (k f u : Nat), xs.drop k = digs n ++ ys → (n ≠ 0 ∨ u ≤ 1) → readGo xs k f u = some (f + n * u, k + (digs n).length) := by
  intro n
  induction n using Nat.strongRecOn with
  | ind n ih =>
    intro xs ys k f u h hu
    by_cases hn : n < 128
    · rw [digs_lt hn] at h ⊢
      obtain ⟨hk, e1, e2⟩ := drop_cons h
      rw [readGo, dif_pos hk, e1, if_pos hn, if_neg (by omega), Nat.mod_eq_of_lt hn]
      rfl
    · rw [digs_ge hn] at h ⊢
      obtain ⟨hk, e1, e2⟩ := drop_cons h
      rw [readGo, dif_pos hk, e1, if_neg (by omega), ih (n / 128) (by omega) xs ys (k + 1) _ _ e2 (.inl (by omega)), List.length_cons]
      have e3 : (n % 128 + 128) % 128 = n % 128 := by omega
      have e4 : n / 128 * (u * 128) = (n / 128 * 128) * u := by rw [Nat.mul_comm u 128, Nat.mul_assoc]
      have e5 : n * u = n % 128 * u + n / 128 * 128 * u := by
        rw [← Nat.add_mul]
        congr 1
        omega
      rw [e3, e4, e5]
      congr 2 <;> omega
/-- what is read as a number are the number's signs -/
theorem readGo_to {xs : List Nat} (hx : ∀ x ∈ xs, x < 256) : ∀ (m k f u F q : Nat), m = xs.length - k → 0 < u → readGo xs k f u = some (F, q) → ∃ n, F = f + n * u ∧ xs.drop k = digs n ++ xs.drop q ∧ q ≤ xs.length ∧ (n = 0 → u ≤ 1) := by
  intro m
  induction m with
  | zero =>
    intro k f u F q hm hu h
    rw [readGo, dif_neg (by omega)] at h
    cases h
  | succ m ih =>
    intro k f u F q hm hu h
    rw [readGo] at h
    by_cases hk : k < xs.length
    · rw [dif_pos hk] at h
      have hd := List.drop_eq_getElem_cons hk
      have hb := hx _ (List.getElem_mem hk)
      by_cases h1 : xs[k] < 128
      · rw [if_pos h1] at h
        by_cases h2 : xs[k] = 0 ∧ 128 < u * 128
        · rw [if_pos h2] at h; cases h
        · rw [if_neg h2] at h
          cases h
          refine ⟨xs[k], by rw [Nat.mod_eq_of_lt h1], by rw [hd, digs_lt h1]; rfl, hk, fun z => ?_⟩
          by_cases hu1 : u ≤ 1
          · exact hu1
          · exact absurd ⟨z, by omega⟩ h2
      · rw [if_neg h1] at h
        obtain ⟨n, e1, e2, e3, e4⟩ := ih (k + 1) _ (u * 128) F q (by omega) (by omega) h
        have hn0 : n ≠ 0 := fun z => by have := e4 z; omega
        refine ⟨n * 128 + xs[k] % 128, ?_, ?_, e3, fun z => by omega⟩
        · rw [e1, Nat.add_mul, Nat.mul_comm u 128, Nat.mul_assoc]
          omega
        · have g1 : ¬ n * 128 + xs[k] % 128 < 128 := by omega
          have g2 : (n * 128 + xs[k] % 128) % 128 + 128 = xs[k] := by omega
          have g3 : (n * 128 + xs[k] % 128) / 128 = n := by omega
          rw [hd, digs_ge g1, g2, g3, e2]
          rfl
    · rw [dif_neg hk] at h; cases h
theorem readN_of {n : Int} {xs ys : List Nat} {k : Nat} (h : xs.drop k = digs (zig n) ++ ys) : readN xs k = some (n, k + (digs (zig n)).length) := by
  unfold readN
  rw [readGo_of (zig n) xs ys k 0 1 h (.inr (by decide)), Option.map_some]
  show some (zag (0 + zig n * 1), _) = _
  rw [Nat.zero_add, Nat.mul_one, zag_zig]
theorem readN_to {xs : List Nat} (hx : ∀ x ∈ xs, x < 256) {k : Nat} {n : Int} {q : Nat} (h : readN xs k = some (n, q)) : xs.drop k = digs (zig n) ++ xs.drop q ∧ q ≤ xs.length := by
  unfold readN at h
  cases e : readGo xs k 0 1 with
  | none => rw [e] at h; cases h
  | some p =>
    obtain ⟨F, q'⟩ := p
    rw [e] at h
    cases h
    obtain ⟨m, e1, e2, e3, _⟩ := readGo_to hx _ k 0 1 F _ rfl (by decide) e
    rw [Nat.zero_add, Nat.mul_one] at e1
    show xs.drop k = digs (zig (zag F)) ++ _ ∧ _
    rw [zig_zag, e1]
    exact ⟨e2, e3⟩
theorem drop_len {α : Type} {xs ys zs : List α} {k : Nat} (hk : k ≤ xs.length) (h : xs.drop k = ys ++ zs) : xs.length = k + ys.length + zs.length := by
  have := congrArg List.length h
  rw [List.length_drop, List.length_append] at this
  omega
theorem drop_le {α : Type} {xs ys : List α} {k : Nat} (h : xs.drop k = ys) (hy : ys ≠ []) : k ≤ xs.length := by
  rcases Nat.lt_or_ge xs.length k with z | z
  · rw [List.drop_eq_nil_of_le (by omega)] at h
    exact absurd h.symm hy
  · exact z
theorem readM_of {m : Nat} {xs ys : List Nat} {k : Nat} (h : xs.drop k = digs (zig (m : Nat)) ++ ys) (hm : m ≤ ys.length) : readM xs k = some ((m : Int), k + (digs (zig (m : Nat))).length) := by
  unfold readM
  rw [readN_of h]
  have hk : k ≤ xs.length := drop_le h (by simp [digs_ne])
  have := drop_len hk h
  exact if_pos ⟨by omega, by push_cast; omega⟩
theorem readM_to {xs : List Nat} (hx : ∀ x ∈ xs, x < 256) {k : Nat} {m : Int} {q : Nat} (h : readM xs k = some (m, q)) : ∃ n : Nat, m = n ∧ xs.drop k = digs (zig (n : Nat)) ++ xs.drop q ∧ q ≤ xs.length ∧ n + q ≤ xs.length := by
  unfold readM at h
  cases e : readN xs k with
  | none => rw [e] at h; cases h
  | some p =>
    obtain ⟨v, q'⟩ := p
    rw [e] at h
    obtain ⟨e1, e2⟩ := readN_to hx e
    have h : (if 0 ≤ v ∧ v ≤ (xs.length : Int) - q' then some (v, q') else none) = some (m, q) := h
    split at h
    · rename_i c
      cases h
      refine ⟨m.toNat, by omega, ?_, e2, by omega⟩
      rw [show ((m.toNat : Nat) : Int) = m by omega]
      exact e1
    · cases h
theorem lets_of (ks : List Lt) : lets (ks.map (·.val)) = some ks := by
  induction ks with
  | nil => rfl
  | cons k ks ih =>
    rw [List.map_cons, lets, dif_pos k.isLt, ih]
    rfl
theorem lets_to : ∀ {xs : List Nat} {ks : List Lt}, lets xs = some ks → xs = ks.map (·.val)
  | [], ks, h => by
    cases h
    rfl
  | x :: xs, ks, h => by
    rw [lets] at h
    split at h
    · cases e : lets xs with
      | none => rw [e] at h; cases h
      | some ls =>
        rw [e] at h
        cases h
        rw [lets_to e]
        rfl
    · cases h
theorem codeV_ne (v : Cv) : codeV v ≠ [] := by cases v <;> simp [codeV]
theorem readV_of {v : Cv} {xs ys : List Nat} {k : Nat} (h : xs.drop k = codeV v ++ ys) : readV xs k = some (v, k + (codeV v).length) := by
  cases v with
  | non =>
    obtain ⟨hk, e1, e2⟩ := drop_cons h
    rw [readV, dif_pos hk, e1]
    rfl
  | num n =>
    obtain ⟨hk, e1, e2⟩ := drop_cons h
    rw [readV, dif_pos hk, e1, if_neg (by decide), if_neg (by decide), if_pos rfl, readN_of e2, Option.map_some]
    show some (Cv.num n, _) = some (Cv.num n, _)
    rw [codeV, List.length_cons]
    congr 2
    omega
  | txt ks =>
    have h : xs.drop k = 2 :: (digs (zig (ks.length : Nat)) ++ (ks.map (·.val) ++ ys)) := by rw [h, codeV]; simp
    obtain ⟨hk, e1, e2⟩ := drop_cons h
    have e3 := drop_add e2
    rw [readV, dif_pos hk, e1, if_neg (by decide), if_neg (by decide), if_neg (by decide), readM_of e2 (by simp)]
    show (lets ((xs.drop (k + 1 + (digs (zig (ks.length : Nat))).length)).take (((ks.length : Nat) : Int).toNat))).map _ = _
    rw [e3, Int.toNat_natCast, List.take_left' (by simp), lets_of, Option.map_some]
    show some (Cv.txt ks, _) = some (Cv.txt ks, _)
    rw [codeV, List.length_cons, List.length_append, List.length_map]
    congr 2
    omega
theorem readV_to {xs : List Nat} (hx : ∀ x ∈ xs, x < 256) {k : Nat} {v : Cv} {q : Nat} (h : readV xs k = some (v, q)) : xs.drop k = codeV v ++ xs.drop q ∧ q ≤ xs.length ∧ k < q := by
  rw [readV] at h
  by_cases hk : k < xs.length
  · rw [dif_pos hk] at h
    have hd := List.drop_eq_getElem_cons hk
    split at h
    · cases h
    · split at h
      · rename_i c
        cases h
        rw [hd, c]
        exact ⟨rfl, hk, by omega⟩
      · split at h
        · rename_i c
          cases e : readN xs (k + 1) with
          | none => rw [e] at h; cases h
          | some p =>
            obtain ⟨n, q'⟩ := p
            rw [e] at h
            cases h
            obtain ⟨e1, e2⟩ := readN_to hx e
            refine ⟨by rw [hd, c, e1]; rfl, e2, ?_⟩
            have := congrArg List.length e1
            rw [List.length_append, List.length_drop, List.length_drop] at this
            have := List.length_pos_iff.mpr (digs_ne (zig n))
            show k < q'
            have e2 : q' ≤ xs.length := e2
            omega
        · cases e : readM xs (k + 1) with
          | none => rw [e] at h; cases h
          | some p =>
            obtain ⟨m, q'⟩ := p
            rw [e] at h
            obtain ⟨n, rfl, e1, e2, e3⟩ := readM_to hx e
            have h : (lets ((xs.drop q').take (((n : Nat) : Int).toNat))).map (fun ks => (Cv.txt ks, q' + ((n : Nat) : Int).toNat)) = some (v, q) := h
            rw [Int.toNat_natCast] at h
            cases e4 : lets ((xs.drop q').take n) with
            | none => rw [e4] at h; cases h
            | some ks =>
              rw [e4] at h
              cases h
              have e5 := lets_to e4
              have hl : ks.length = n := by
                have := congrArg List.length e5
                rw [List.length_map, List.length_take, List.length_drop] at this
                omega
              have e6 : xs.drop q' = ks.map (·.val) ++ xs.drop (q' + n) := by
                conv => lhs; rw [← List.take_append_drop n (xs.drop q'), e5, List.drop_drop]
              have hq : k < q' := by
                have := congrArg List.length e1
                rw [List.length_append, List.length_drop, List.length_drop] at this
                have := List.length_pos_iff.mpr (digs_ne (zig (n : Nat)))
                omega
              have c : xs[k] = 2 := by omega
              refine ⟨?_, by show q' + n ≤ _; omega, by show k < q' + n; omega⟩
              rw [hd, c, e1, e6, codeV, hl]
              simp
  · rw [dif_neg hk] at h; cases h
theorem readVs_of : ∀ (r : Cr) {xs ys : List Nat} {k : Nat}, xs.drop k = r.flatMap codeV ++ ys → readVs xs r.length k = some (r, k + (r.flatMap codeV).length)
  | [], xs, ys, k, h => rfl
  | v :: r, xs, ys, k, h => by
    have h : xs.drop k = codeV v ++ (r.flatMap codeV ++ ys) := by rw [h, List.flatMap_cons, List.append_assoc]
    rw [List.length_cons, readVs, readV_of h]
    show (readVs xs r.length (k + (codeV v).length)).map _ = _
    rw [readVs_of r (drop_add h), Option.map_some, List.flatMap_cons, List.length_append]
    show some (v :: r, _) = some (v :: r, _)
    congr 2
    omega
theorem readVs_to {xs : List Nat} (hx : ∀ x ∈ xs, x < 256) : ∀ {m k : Nat} {r : Cr} {q : Nat}, readVs xs m k = some (r, q) → k ≤ xs.length → xs.drop k = r.flatMap codeV ++ xs.drop q ∧ q ≤ xs.length ∧ r.length = m
  | 0, k, r, q, h, hk => by
    cases h
    exact ⟨rfl, hk, rfl⟩
  | m + 1, k, r, q, h, hk => by
    rw [readVs] at h
    cases e : readV xs k with
    | none => rw [e] at h; cases h
    | some p =>
      obtain ⟨v, q'⟩ := p
      rw [e] at h
      have h : (readVs xs m q').map (fun p => (v :: p.1, p.2)) = some (r, q) := h
      obtain ⟨e1, e2, _⟩ := readV_to hx e
      cases e3 : readVs xs m q' with
      | none => rw [e3] at h; cases h
      | some p =>
        obtain ⟨r', q2⟩ := p
        rw [e3] at h
        cases h
        obtain ⟨e4, e5, e6⟩ := readVs_to hx e3 e2
        exact ⟨by rw [e1, e4, List.flatMap_cons, List.append_assoc], e5, by rw [List.length_cons, e6]⟩
theorem flat_len (r : Cr) : r.length ≤ (r.flatMap codeV).length := by
  induction r with
  | nil => simp
  | cons v r ih =>
    rw [List.flatMap_cons, List.length_append, List.length_cons]
    have := List.length_pos_iff.mpr (codeV_ne v)
    omega
/-- a row's line is read as the row -/
theorem readR_of {r : Cr} {xs ys : List Nat} {k : Nat} (h : xs.drop k = codeR r ++ ys) : readR xs k = some (r, k + (codeR r).length) := by
  have h : xs.drop k = digs (zig (r.length : Nat)) ++ (r.flatMap codeV ++ ys) := by rw [h, codeR, List.append_assoc]
  unfold readR
  rw [readM_of h (by have := flat_len r; rw [List.length_append]; omega)]
  show readVs xs (((r.length : Nat) : Int).toNat) _ = _
  rw [Int.toNat_natCast, readVs_of r (drop_add h), codeR, List.length_append, Nat.add_assoc]
/-- what is read as a row is the row's line -/
theorem readR_to {xs : List Nat} (hx : ∀ x ∈ xs, x < 256) {k : Nat} {r : Cr} {q : Nat} (h : readR xs k = some (r, q)) : xs.drop k = codeR r ++ xs.drop q ∧ q ≤ xs.length := by
  unfold readR at h
  cases e : readM xs k with
  | none => rw [e] at h; cases h
  | some p =>
    obtain ⟨m, q'⟩ := p
    rw [e] at h
    obtain ⟨n, rfl, e1, e2, e3⟩ := readM_to hx e
    have h : readVs xs (((n : Nat) : Int).toNat) q' = some (r, q) := h
    rw [Int.toNat_natCast] at h
    obtain ⟨e4, e5, e6⟩ := readVs_to hx h e2
    exact ⟨by rw [e1, e4, codeR, e6, List.append_assoc], e5⟩
end Bg

set_option Elab.async false
set_option linter.all false
set_option maxRecDepth 100000
/-! Keys of rows. -/
namespace Bg
open PySem L2 Dv
/-- the signs of a number to the base 256, the low ones first -/
def digl (n : Nat) : List Nat := if h : n < 256 then [n] else n % 256 :: digl (n / 256)
termination_by n
decreasing_by omega
def bigs (n : Nat) : List Nat := (digl n).reverse
def ups (ds : List Nat) : Nat := ds.foldl (fun a d => 256 * a + d) 0
theorem digl_lt {n : Nat} (h : n < 256) : digl n = [n] := by rw [digl, dif_pos h]
theorem digl_ge {n : Nat} (h : ¬ n < 256) : digl n = n % 256 :: digl (n / 256) := by rw [digl, dif_neg h]
theorem bigs_lt {n : Nat} (h : n < 256) : bigs n = [n] := by rw [bigs, digl_lt h]; rfl
theorem bigs_ge {n : Nat} (h : ¬ n < 256) : bigs n = bigs (n / 256) ++ [n % 256] := by rw [bigs, digl_ge h, List.reverse_cons]; rfl
theorem bigs_ne (n : Nat) : bigs n ≠ [] := by
  by_cases h : n < 256
  · rw [bigs_lt h]; simp
  · rw [bigs_ge h]; simp
theorem bigs_bd (n : Nat) : ∀ d ∈ bigs n, d < 256 := by
  induction n using Nat.strongRecOn with
  | ind n ih =>
    by_cases h : n < 256
    · rw [bigs_lt h]
      intro d hd
      rw [List.mem_singleton.mp hd]
      exact h
    · rw [bigs_ge h]
      intro d hd
      rcases List.mem_append.mp hd with z | z
      · exact ih _ (by omega) d z
      · rw [List.mem_singleton.mp z]
        omega
theorem ups_bigs (n : Nat) : ups (bigs n) = n := by
  induction n using Nat.strongRecOn with
  | ind n ih =>
    by_cases h : n < 256
    · rw [bigs_lt h]
      show 256 * 0 + n = n
      omega
    · have := ih (n / 256) (by omega)
      unfold ups at this
      rw [bigs_ge h, ups, List.foldl_append, this]
      show 256 * (n / 256) + n % 256 = n
      omega
theorem bigs_len : ∀ (k n : Nat), n < 256 ^ (k + 1) → (bigs n).length ≤ k + 1
  | 0, n, h => by rw [bigs_lt (by simpa using h)]; simp
  | k + 1, n, h => by
    by_cases h1 : n < 256
    · rw [bigs_lt h1]; simp
    · rw [bigs_ge h1, List.length_append]
      have := bigs_len k (n / 256) (by
        rw [Nat.pow_succ] at h
        exact Nat.div_lt_of_lt_mul (by rw [Nat.mul_comm]; exact h))
      simp
      omega
/-- of two numbers the first sign that is not the same -/
theorem bigs_cmp : ∀ (m n : Nat), n < m → (bigs n).length < (bigs m).length ∨ ((bigs n).length = (bigs m).length ∧ ∃ p x y s t, bigs n = p ++ x :: s ∧ bigs m = p ++ y :: t ∧ x < y) := by
  intro m
  induction m using Nat.strongRecOn with
  | ind m ih =>
    intro n h
    by_cases hm : m < 256
    · rw [bigs_lt hm, bigs_lt (by omega : n < 256)]
      exact .inr ⟨rfl, [], n, m, [], [], rfl, rfl, h⟩
    · by_cases hn : n < 256
      · rw [bigs_lt hn, bigs_ge hm, List.length_append]
        have := List.length_pos_iff.mpr (bigs_ne (m / 256))
        exact .inl (by simp; omega)
      · rw [bigs_ge hn, bigs_ge hm, List.length_append, List.length_append]
        by_cases e : n / 256 = m / 256
        · rw [e]
          exact .inr ⟨rfl, bigs (m / 256), n % 256, m % 256, [], [], rfl, rfl, by omega⟩
        · rcases ih (m / 256) (by omega) (n / 256) (by omega) with z | ⟨z, p, x, y, s, t, h1, h2, h3⟩
          · exact .inl (by simp; omega)
          · exact .inr ⟨by simp [z], p, x, y, s ++ [n % 256], t ++ [m % 256], by rw [h1]; simp, by rw [h2]; simp, h3⟩
def neg (ds : List Nat) : List Nat := ds.map (255 - ·)
theorem neg_neg {ds : List Nat} (h : ∀ d ∈ ds, d < 256) : neg (neg ds) = ds := by
  unfold neg
  rw [List.map_map]
  conv => rhs; rw [← List.map_id ds]
  exact List.map_congr_left fun d hd => by
    have := h d hd
    show 255 - (255 - d) = d
    omega
def keyV : Cv → List Nat
  | .non => [0]
  | .txt ks => 3 :: (ks.map (fun k => k.val + 1) ++ [0])
  | .num n => if 0 ≤ n then 2 :: (bigs n.natAbs).length :: bigs n.natAbs else 1 :: (255 - (bigs n.natAbs).length) :: neg (bigs n.natAbs)
def keysR (r : Cr) : List Nat := r.flatMap keyV
/-- values whose keys are told rightly -/
def Cv.ok : Cv → Prop
  | .num n => (bigs n.natAbs).length ≤ 255
  | _ => True
/-! reading -/
def readD (xs : List Nat) (k many : Nat) (pos : Bool) : Option (Int × Nat) :=
  let ds := (xs.drop k).take many
  let es := if pos then ds else neg ds
  if ds.length < many ∨ many = 0 then none
  else if bigs (ups es) = es then some (if pos then (ups es : Nat) else -((ups es : Nat) : Int), k + many) else none
def readT (xs : List Nat) (k : Nat) (acc : List Lt) : Option (Cv × Nat) :=
  if h : k < xs.length then
    if xs[k] = 0 then some (.txt acc, k + 1)
    else if g : xs[k] ≤ 26 then readT xs (k + 1) (acc ++ [⟨xs[k] - 1, by omega⟩])
    else none
  else none
termination_by xs.length - k
def readO (xs : List Nat) (k : Nat) : Option (Cv × Nat) :=
  if h : k < xs.length then
    if xs[k] = 0 then some (.non, k + 1)
    else if xs[k] = 3 then readT xs (k + 1) []
    else if 3 < xs[k] then none
    else if g : k + 1 < xs.length then
      if xs[k] = 2 then (readD xs (k + 2) xs[k + 1] true).map fun p => (.num p.1, p.2)
      else match readD xs (k + 2) (255 - xs[k + 1]) false with
        | some (v, q) => if v = 0 then none else some (.num v, q)
        | none => none
    else none
  else none
def readK (xs : List Nat) : Nat → Nat → Option Cr
  | 0, _ => none
  | f + 1, k => if k < xs.length then match readO xs k with
      | some (v, q) => (readK xs f q).map (v :: ·)
      | none => none
    else some []
theorem readD_of {n : Nat} {xs ys : List Nat} {k : Nat} {pos : Bool} (h : xs.drop k = (if pos then bigs n else neg (bigs n)) ++ ys) :
    readD xs k (bigs n).length pos = some (if pos then ((n : Nat) : Int) else -((n : Nat) : Int), k + (bigs n).length) := by
  have hl : (if pos then bigs n else neg (bigs n)).length = (bigs n).length := by cases pos <;> simp [neg]
  have ht : (xs.drop k).take (bigs n).length = if pos then bigs n else neg (bigs n) := by rw [h, List.take_left' hl]
  have he : (if pos then (if pos then bigs n else neg (bigs n)) else neg (if pos then bigs n else neg (bigs n))) = bigs n := by
    cases pos
    · exact neg_neg (bigs_bd n)
    · rfl
  have hp := List.length_pos_iff.mpr (bigs_ne n)
  unfold readD
  simp only [ht, he, hl]
  rw [if_neg (by omega), if_pos (by rw [ups_bigs]), ups_bigs]
theorem readD_to {xs : List Nat} (hx : ∀ x ∈ xs, x < 256) {k many : Nat} {pos : Bool} {v : Int} {q : Nat} (h : readD xs k many pos = some (v, q)) :
    ∃ n : Nat, v = (if pos then (n : Int) else -(n : Int)) ∧ (bigs n).length = many ∧ xs.drop k = (if pos then bigs n else neg (bigs n)) ++ xs.drop q ∧ q ≤ xs.length ∧ k < q := by
  unfold readD at h
  simp only at h
  generalize hd : (xs.drop k).take many = ds at h
  generalize he : (if pos = true then ds else neg ds) = es at h
  split at h
  · cases h
  · rename_i c
    split at h
    · rename_i g
      cases h
      have hds : ∀ d ∈ ds, d < 256 := fun d z => hx d (List.drop_subset k xs (List.take_subset many _ (hd ▸ z)))
      have hle : es.length = many := by
        have h1 : ds.length = many := by
          have := congrArg List.length hd
          rw [List.length_take] at this
          omega
        rw [← he]
        cases pos <;> simp [neg, h1]
      have hkl : k + many ≤ xs.length := by
        have := congrArg List.length hd
        rw [List.length_take, List.length_drop] at this
        omega
      have hds2 : ds = if pos = true then es else neg es := by
        cases pos
        · rw [← he]
          exact (neg_neg hds).symm
        · exact he
      refine ⟨ups es, rfl, by rw [g, hle], ?_, hkl, by omega⟩
      rw [g, ← hds2, ← List.drop_drop, ← hd, List.take_append_drop]
    · cases h
theorem readT_of : ∀ (ks acc : List Lt) {xs ys : List Nat} {k : Nat}, xs.drop k = ks.map (fun k => k.val + 1) ++ 0 :: ys → readT xs k acc = some (.txt (acc ++ ks), k + ks.length + 1)
  | [], acc, xs, ys, k, h => by
    obtain ⟨hk, e1, e2⟩ := drop_cons h
    rw [readT, dif_pos hk, if_pos e1]
    simp
  | c :: ks, acc, xs, ys, k, h => by
    obtain ⟨hk, e1, e2⟩ := drop_cons h
    have hc := c.isLt
    have e1 : xs[k] = c.val + 1 := e1
    rw [readT, dif_pos hk, if_neg (by omega), dif_pos (by omega), readT_of ks _ e2]
    have e3 : (⟨xs[k] - 1, by omega⟩ : Lt) = c := Fin.ext (by show xs[k] - 1 = c.val; omega)
    rw [e3]
    simp
    omega
theorem readT_to {xs : List Nat} : ∀ (m k : Nat) (acc : List Lt) {v : Cv} {q : Nat}, m = xs.length - k → readT xs k acc = some (v, q) → ∃ ks, v = .txt (acc ++ ks) ∧ xs.drop k = (ks.map (fun k => k.val + 1) ++ [0]) ++ xs.drop q ∧ q ≤ xs.length ∧ k < q
  | 0, k, acc, v, q, hm, h => by
    rw [readT, dif_neg (by omega)] at h
    cases h
  | m + 1, k, acc, v, q, hm, h => by
    rw [readT] at h
    split at h
    · rename_i hk
      have hd := List.drop_eq_getElem_cons hk
      split at h
      · rename_i c
        cases h
        exact ⟨[], by simp, by rw [hd, c]; rfl, hk, by omega⟩
      · split at h
        · rename_i c g
          obtain ⟨ks, e1, e2, e3, e4⟩ := readT_to m (k + 1) _ (by omega) h
          refine ⟨⟨xs[k] - 1, by omega⟩ :: ks, by rw [e1]; simp, ?_, e3, by omega⟩
          rw [hd, e2, List.map_cons]
          have e5 : xs[k] - 1 + 1 = xs[k] := by omega
          show xs[k] :: _ = ((xs[k] - 1 + 1) :: (ks.map (fun k => k.val + 1) ++ [0])) ++ _
          rw [e5]
          rfl
        · cases h
    · cases h
theorem readO_of {v : Cv} (hv : v.ok) {xs ys : List Nat} {k : Nat} (h : xs.drop k = keyV v ++ ys) : readO xs k = some (v, k + (keyV v).length) := by
  cases v with
  | non =>
    obtain ⟨hk, e1, e2⟩ := drop_cons h
    rw [readO, dif_pos hk, if_pos e1]
    rfl
  | txt ks =>
    have h : xs.drop k = 3 :: (ks.map (fun k => k.val + 1) ++ 0 :: ys) := by rw [h, keyV]; simp
    obtain ⟨hk, e1, e2⟩ := drop_cons h
    rw [readO, dif_pos hk, if_neg (by omega), if_pos e1, readT_of ks [] e2, keyV]
    simp
    omega
  | num n =>
    have hv : (bigs n.natAbs).length ≤ 255 := hv
    rw [keyV] at h ⊢
    by_cases hn : 0 ≤ n
    · rw [if_pos hn] at h ⊢
      obtain ⟨hk, e1, e2⟩ := drop_cons h
      obtain ⟨hk2, e3, e4⟩ := drop_cons e2
      rw [readO, dif_pos hk, if_neg (by omega), if_neg (by omega), if_neg (by omega), dif_pos hk2, if_pos e1, e3, readD_of (pos := true) e4]
      show some (Cv.num ((n.natAbs : Nat) : Int), _) = _
      rw [show ((n.natAbs : Nat) : Int) = n by omega, List.length_cons, List.length_cons]
      congr 2
      omega
    · rw [if_neg hn] at h ⊢
      obtain ⟨hk, e1, e2⟩ := drop_cons h
      obtain ⟨hk2, e3, e4⟩ := drop_cons e2
      rw [readO, dif_pos hk, if_neg (by omega), if_neg (by omega), if_neg (by omega), dif_pos hk2, if_neg (by omega), e3, show 255 - (255 - (bigs n.natAbs).length) = (bigs n.natAbs).length by omega, readD_of (pos := false) e4]
      show (if -((n.natAbs : Nat) : Int) = 0 then none else some (Cv.num (-((n.natAbs : Nat) : Int)), _)) = _
      rw [if_neg (by omega), show -((n.natAbs : Nat) : Int) = n by omega, List.length_cons, List.length_cons, neg, List.length_map]
      congr 2
      omega
theorem readO_to {xs : List Nat} (hx : ∀ x ∈ xs, x < 256) {k : Nat} {v : Cv} {q : Nat} (h : readO xs k = some (v, q)) : xs.drop k = keyV v ++ xs.drop q ∧ q ≤ xs.length ∧ k < q ∧ v.ok := by
  rw [readO] at h
  split at h
  · rename_i hk
    have hd := List.drop_eq_getElem_cons hk
    split at h
    · rename_i c
      cases h
      exact ⟨by rw [hd, c]; rfl, hk, by omega, trivial⟩
    · split at h
      · rename_i c
        obtain ⟨ks, e1, e2, e3, e4⟩ := readT_to _ (k + 1) [] rfl h
        rw [e1]
        exact ⟨by rw [hd, c, e2]; rfl, e3, by omega, trivial⟩
      · split at h
        · cases h
        · split at h
          · rename_i hk2
            have hd2 := List.drop_eq_getElem_cons hk2
            have hb2 := hx _ (List.getElem_mem hk2)
            split at h
            · rename_i c
              cases e : readD xs (k + 2) xs[k + 1] true with
              | none => rw [e] at h; cases h
              | some p =>
                obtain ⟨n, q'⟩ := p
                rw [e] at h
                cases h
                obtain ⟨m, e1, e2, e3, e4, e5⟩ := readD_to hx e
                have e1 : n = (m : Int) := e1
                subst e1
                refine ⟨?_, e4, by show k < q'; omega, ?_⟩
                · show _ = keyV (.num ((m : Nat) : Int)) ++ _
                  have e3 : xs.drop (k + 1 + 1) = bigs m ++ xs.drop q' := e3
                  rw [hd, hd2, c, e3, keyV, if_pos (by omega), Int.natAbs_natCast, e2]
                  rfl
                · show (bigs (((m : Nat) : Int)).natAbs).length ≤ 255
                  rw [Int.natAbs_natCast]
                  omega
            · rename_i c0 c3 c4 c2
              cases e : readD xs (k + 2) (255 - xs[k + 1]) false with
              | none => rw [e] at h; cases h
              | some p =>
                obtain ⟨n, q'⟩ := p
                rw [e] at h
                have h : (if n = 0 then none else some (Cv.num n, q')) = some (v, q) := h
                split at h
                · cases h
                · rename_i hn
                  cases h
                  obtain ⟨m, e1, e2, e3, e4, e5⟩ := readD_to hx e
                  have e1 : n = -(m : Int) := e1
                  have em : n.natAbs = m := by omega
                  refine ⟨?_, e4, by omega, ?_⟩
                  · have e3 : xs.drop (k + 1 + 1) = neg (bigs m) ++ xs.drop q := e3
                    have c1 : xs[k] = 1 := by omega
                    rw [hd, hd2, c1, e3, keyV, if_neg (by omega), em, e2, show 255 - (255 - xs[k + 1]) = xs[k + 1] by omega]
                    rfl
                  · show (bigs n.natAbs).length ≤ 255
                    rw [em]
                    omega
          · cases h
  · cases h
theorem keyV_ne (v : Cv) : keyV v ≠ [] := by
  cases v with
  | num n => rw [keyV]; split <;> simp
  | _ => simp [keyV]
theorem readK_of : ∀ (r : Cr) {xs : List Nat} {k f : Nat}, (∀ v ∈ r, v.ok) → k ≤ xs.length → xs.drop k = keysR r → xs.length < k + f → readK xs f k = some r
  | [], xs, k, f, hr, hk, h, hf => by
    cases f with
    | zero => omega
    | succ f =>
      have : ¬ k < xs.length := fun z => by
        have := congrArg List.length h
        rw [List.length_drop] at this
        simp [keysR] at this
        omega
      rw [readK, if_neg this]
  | v :: r, xs, k, f, hr, hk, h, hf => by
    cases f with
    | zero => omega
    | succ f =>
      have h : xs.drop k = keyV v ++ keysR r := by rw [h]; rfl
      have hp := List.length_pos_iff.mpr (keyV_ne v)
      have hl := drop_len hk h
      rw [readK, if_pos (by omega), readO_of (hr v List.mem_cons_self) h]
      show (readK xs f (k + (keyV v).length)).map _ = _
      rw [readK_of r (fun u hu => hr u (List.mem_cons_of_mem _ hu)) (by omega) (drop_add h) (by omega)]
      rfl
theorem readK_to {xs : List Nat} (hx : ∀ x ∈ xs, x < 256) : ∀ {f k : Nat} {r : Cr}, k ≤ xs.length → readK xs f k = some r → xs.drop k = keysR r ∧ ∀ v ∈ r, v.ok
  | 0, k, r, hk, h => by cases h
  | f + 1, k, r, hk, h => by
    rw [readK] at h
    split at h
    · cases e : readO xs k with
      | none => rw [e] at h; cases h
      | some p =>
        obtain ⟨v, q⟩ := p
        rw [e] at h
        have h : (readK xs f q).map (v :: ·) = some r := h
        obtain ⟨e1, e2, e3, e4⟩ := readO_to hx e
        cases e5 : readK xs f q with
        | none => rw [e5] at h; cases h
        | some r' =>
          rw [e5] at h
          cases h
          obtain ⟨e6, e7⟩ := readK_to hx e2 e5
          refine ⟨by rw [e1, e6]; rfl, fun u hu => ?_⟩
          rcases List.mem_cons.mp hu with z | z
          · rw [z]; exact e4
          · exact e7 u z
    · cases h
      exact ⟨List.drop_eq_nil_of_le (by omega), fun v hv => by cases hv⟩
end Bg

set_option Elab.async false
set_option linter.all false
set_option maxRecDepth 100000
/-! Keys in order as rows are; none begins another. -/
namespace Bg
open PySem L2 Dv
theorem txS_ok (ks : List Lt) : PyData.strOk (txS ks) = true := by
  have h : ∀ c ∈ (txS ks).cps, c < 128 := fun c hc => by
    have : c ∈ (txS ks).cps.toList := Array.mem_toList_iff.mpr hc
    rw [txS_cps] at this
    obtain ⟨k, _, rfl⟩ := List.mem_map.mp this
    have := k.isLt
    omega
  unfold PyData.strOk
  first
    | (simp only [Array.all_eq_true]; intro i hi; have := h _ (Array.getElem_mem hi); simp; omega)
    | trace_state
def Cv.vl : Cv → Vl
  | .non => .non
  | .num n => .int n
  | .txt ks => .str ⟨txS ks, txS_ok ks⟩
theorem vl_d (v : Cv) : v.vl.d = v.d := by cases v <;> rfl
theorem vl_inj {v u : Cv} (h : v.vl = u.vl) : v = u := by
  cases v <;> cases u <;> simp [Cv.vl] at h ⊢
  · exact h
  · exact txS_inj h
/-- lists of numbers in order -/
def ltN : List Nat → List Nat → Bool
  | _, [] => false
  | [], _ :: _ => true
  | x :: xs, y :: ys => decide (x < y) || (decide (x = y) && ltN xs ys)
theorem ltN_irrefl : ∀ xs : List Nat, ltN xs xs = false
  | [] => rfl
  | x :: xs => by simp [ltN, ltN_irrefl xs]
theorem ltN_asymm : ∀ {xs ys : List Nat}, ltN xs ys = true → ltN ys xs = false
  | [], [], h => rfl
  | [], y :: ys, h => rfl
  | x :: xs, [], h => by cases h
  | x :: xs, y :: ys, h => by
    simp only [ltN, Bool.or_eq_true, decide_eq_true_eq, Bool.and_eq_true] at h
    simp only [ltN, Bool.or_eq_false_iff, decide_eq_false_iff_not, Bool.and_eq_false_iff]
    rcases h with h | ⟨h, g⟩
    · exact ⟨by omega, .inl (by omega)⟩
    · exact ⟨by omega, .inr (ltN_asymm g)⟩
theorem ltN_head (p : List Nat) {x y : Nat} (s t : List Nat) (h : x < y) : ltN (p ++ x :: s) (p ++ y :: t) = true := by
  induction p with
  | nil => simp [ltN, h]
  | cons z p ih => simp [ltN, ih]
theorem ltN_same (p xs ys : List Nat) : ltN (p ++ xs) (p ++ ys) = ltN xs ys := by
  induction p with
  | nil => rfl
  | cons z p ih => simp [ltN, ih]
theorem lineD_lt (xs ys : List Nat) : ltD (lineD xs) (lineD ys) = ltN xs ys := by
  have go : ∀ xs ys : List Nat, PyProof.Rows.lexLt PyProof.Rows.itemOrd (PySem.W.keyToksAll (pys (xs.map fun (b : Nat) => D.int b))) (PySem.W.keyToksAll (pys (ys.map fun (b : Nat) => D.int b))) = ltN xs ys := by
    intro xs
    induction xs with
    | nil =>
      intro ys
      cases ys with
      | nil => exact PyProof.Rows.lex_irrefl (O := PyProof.Rows.itemOrd) _
      | cons y ys =>
        rw [List.map_nil, List.map_cons, toksAll_nil, toksAll_cons, PyProof.Rows.lex_cons]
        rfl
    | cons x xs ih =>
      intro ys
      cases ys with
      | nil =>
        rw [List.map_nil, List.map_cons, toksAll_nil, toksAll_cons, PyProof.Rows.lex_cons]
        rfl
      | cons y ys =>
        rw [List.map_cons, List.map_cons, toksAll_cons, toksAll_cons, PyProof.Rows.lex_self, toks_int, toks_int, List.cons_append, List.cons_append, List.nil_append, List.nil_append, PyProof.Rows.lex_cons, ih ys]
        show (decide ((x : Int) < y) || (!decide ((y : Int) < x) && ltN xs ys)) = (decide (x < y) || (decide (x = y) && ltN xs ys))
        by_cases h1 : x < y
        · rw [decide_eq_true (show (x : Int) < y by omega), decide_eq_true h1]
          rfl
        · rw [decide_eq_false (show ¬ (x : Int) < y by omega), decide_eq_false h1]
          by_cases h2 : x = y
          · rw [decide_eq_false (show ¬ (y : Int) < x by omega), decide_eq_true h2]
            rfl
          · rw [decide_eq_true (show (y : Int) < x by omega), decide_eq_false h2]
            rfl
  rw [ltD_toks, lineD, lineD, toks_tup, toks_tup]
  exact go xs ys
end Bg

set_option Elab.async false
set_option linter.all false
set_option maxRecDepth 100000
/-! Keys in order as rows are; none begins another. -/
namespace Bg
open PySem L2 Dv
def vlt : Cv → Cv → Prop
  | .non, .num _ => True
  | .non, .txt _ => True
  | .num _, .txt _ => True
  | .num a, .num b => a < b
  | .txt a, .txt b => ltN (a.map (·.val)) (b.map (·.val)) = true
  | _, _ => False
theorem ltN_tri : ∀ xs ys : List Nat, xs = ys ∨ ltN xs ys = true ∨ ltN ys xs = true
  | [], [] => .inl rfl
  | [], y :: ys => .inr (.inl rfl)
  | x :: xs, [] => .inr (.inr rfl)
  | x :: xs, y :: ys => by
    rcases Nat.lt_trichotomy x y with h | h | h
    · exact .inr (.inl (by simp [ltN, h]))
    · subst h
      rcases ltN_tri xs ys with g | g | g
      · exact .inl (by rw [g])
      · exact .inr (.inl (by simp [ltN, g]))
      · exact .inr (.inr (by simp [ltN, g]))
    · exact .inr (.inr (by simp [ltN, h]))
theorem vlt_tri (v u : Cv) : v = u ∨ vlt v u ∨ vlt u v := by
  cases v with
  | non => cases u with
    | non => exact .inl rfl
    | num b => exact .inr (.inl trivial)
    | txt b => exact .inr (.inl trivial)
  | num a => cases u with
    | non => exact .inr (.inr trivial)
    | num b =>
      rcases Int.lt_trichotomy a b with h | h | h
      · exact .inr (.inl h)
      · exact .inl (by rw [h])
      · exact .inr (.inr h)
    | txt b => exact .inr (.inl trivial)
  | txt a => cases u with
    | non => exact .inr (.inr trivial)
    | num b => exact .inr (.inr trivial)
    | txt b =>
      rcases ltN_tri (a.map (·.val)) (b.map (·.val)) with h | h | h
      · exact .inl (by rw [(List.map_inj_right (fun x y e => Fin.ext e)).mp h])
      · exact .inr (.inl h)
      · exact .inr (.inr h)
theorem neg_cons (p : List Nat) (x : Nat) (s : List Nat) : neg (p ++ x :: s) = neg p ++ (255 - x) :: neg s := by simp [neg]
theorem txt_key : ∀ (a b : List Lt) (ys zs : List Nat), ltN (a.map (·.val)) (b.map (·.val)) = true → ltN ((a.map (fun k => k.val + 1) ++ [0]) ++ ys) ((b.map (fun k => k.val + 1) ++ [0]) ++ zs) = true
  | [], [], ys, zs, h => by cases h
  | [], y :: b, ys, zs, h => by simp [ltN]
  | x :: a, [], ys, zs, h => by cases h
  | x :: a, y :: b, ys, zs, h => by
    simp only [List.map_cons, ltN, Bool.or_eq_true, decide_eq_true_eq, Bool.and_eq_true] at h
    simp only [List.map_cons, List.cons_append, ltN, Bool.or_eq_true, decide_eq_true_eq, Bool.and_eq_true]
    rcases h with h | ⟨h, g⟩
    · exact .inl (by omega)
    · exact .inr ⟨by omega, txt_key a b ys zs g⟩
theorem key_lt {v u : Cv} (h : vlt v u) (hv : v.ok) (hu : u.ok) (ys zs : List Nat) : ltN (keyV v ++ ys) (keyV u ++ zs) = true := by
  cases v with
  | non =>
    cases u with
    | non => exact h.elim
    | num b =>
      rw [keyV, keyV]
      split <;> simp [ltN]
    | txt b => simp [keyV, ltN]
  | num a =>
    cases u with
    | non => exact h.elim
    | num b =>
      have h : a < b := h
      have hv : (bigs a.natAbs).length ≤ 255 := hv
      have hu : (bigs b.natAbs).length ≤ 255 := hu
      rw [keyV, keyV]
      by_cases ha : 0 ≤ a
      · rw [if_pos ha, if_pos (by omega)]
        rcases bigs_cmp b.natAbs a.natAbs (by omega) with z | ⟨z, p, x, y, s, t, e1, e2, e3⟩
        · simp [ltN, z]
        · have := ltN_head p (s ++ ys) (t ++ zs) e3
          rw [z, e1, e2]
          simp only [List.cons_append, ltN, List.append_assoc]
          simp [this]
      · rw [if_neg ha]
        by_cases hb : 0 ≤ b
        · rw [if_pos hb]
          simp [ltN]
        · rw [if_neg hb]
          rcases bigs_cmp a.natAbs b.natAbs (by omega) with z | ⟨z, p, x, y, s, t, e1, e2, e3⟩
          · simp only [List.cons_append, ltN, Bool.or_eq_true, decide_eq_true_eq, Bool.and_eq_true]
            simp; omega
          · have hy : y < 256 := bigs_bd a.natAbs y (by rw [e2]; simp)
            have := ltN_head (neg p) (neg t ++ ys) (neg s ++ zs) (show 255 - y < 255 - x by omega)
            rw [z, e1, e2, neg_cons, neg_cons]
            simp only [List.cons_append, ltN, List.append_assoc]
            simp [this]
    | txt b =>
      rw [keyV, keyV]
      split <;> simp [ltN]
  | txt a =>
    cases u with
    | non => exact h.elim
    | num b => exact h.elim
    | txt b =>
      have := txt_key a b ys zs h
      simp only [keyV, List.cons_append, ltN]
      simp only [List.append_assoc, List.cons_append, List.nil_append] at this
      simp [this]
theorem tx_lt : ∀ a b : List Lt, ltN (a.map (·.val)) (b.map (·.val)) = true → (a.map fun k => 97 + k.val) < (b.map fun k => 97 + k.val)
  | [], [], h => by cases h
  | [], y :: b, h => by simp
  | x :: a, [], h => by cases h
  | x :: a, y :: b, h => by
    simp only [List.map_cons, ltN, Bool.or_eq_true, decide_eq_true_eq, Bool.and_eq_true] at h
    rw [List.map_cons, List.map_cons, List.cons_lt_cons_iff]
    rcases h with h | ⟨h, g⟩
    · exact .inl (by omega)
    · exact .inr ⟨by omega, tx_lt a b g⟩
theorem pl_lt {v u : Cv} (h : vlt v u) (X Y : List (Int ⊕ List Nat)) : PyProof.Rows.lexLt PyProof.Rows.itemOrd (toks (plV v.vl) ++ X) (toks (plV u.vl) ++ Y) = true := by
  rw [toks_pl, toks_pl]
  simp only [List.cons_append, List.nil_append]
  rw [PyProof.Rows.lex_self]
  by_cases e1 : (plT v.vl).1 = (plT u.vl).1
  · rw [e1, PyProof.Rows.lex_self, PyProof.Rows.lex_self]
    by_cases e2 : (plT v.vl).2.1 = (plT u.vl).2.1
    · rw [e2, PyProof.Rows.lex_self, PyProof.Rows.lex_self, PyProof.Rows.lex_cons]
      have : PyProof.Rows.itemOrd.blt (.inr (plT v.vl).2.2) (.inr (plT u.vl).2.2) = true := by
        show decide ((plT v.vl).2.2 < (plT u.vl).2.2) = true
        rw [decide_eq_true_eq]
        cases v <;> cases u <;> simp [vlt, plT, Cv.vl] at h e1 e2
        · omega
        · rename_i a b
          show (txS a).cps.toList < (txS b).cps.toList
          rw [txS_cps, txS_cps]
          exact tx_lt a b h
      rw [this]
      rfl
    · rw [PyProof.Rows.lex_cons]
      have : PyProof.Rows.itemOrd.blt (.inl (plT v.vl).2.1) (.inl (plT u.vl).2.1) = true := by
        show decide ((plT v.vl).2.1 < (plT u.vl).2.1) = true
        rw [decide_eq_true_eq]
        cases v <;> cases u <;> simp [vlt, plT, Cv.vl] at h e1 e2 ⊢
        exact h
      rw [this]
      rfl
  · rw [PyProof.Rows.lex_cons]
    have : PyProof.Rows.itemOrd.blt (.inl (plT v.vl).1) (.inl (plT u.vl).1) = true := by
      show decide ((plT v.vl).1 < (plT u.vl).1) = true
      rw [decide_eq_true_eq]
      cases v <;> cases u <;> simp [vlt, plT, Cv.vl] at h e1 ⊢
    rw [this]
    rfl
/-- the first value that is not the same -/
def rowlt (r s : Cr) : Prop := ∃ p v u r' s', r = p ++ v :: r' ∧ s = p ++ u :: s' ∧ vlt v u
theorem rowlt_tri : ∀ {r s : Cr}, r.length = s.length → r = s ∨ rowlt r s ∨ rowlt s r
  | [], [], h => .inl rfl
  | [], u :: s, h => by simp at h
  | v :: r, [], h => by simp at h
  | v :: r, u :: s, h => by
    rcases vlt_tri v u with e | e | e
    · subst e
      rcases rowlt_tri (r := r) (s := s) (by simpa using h) with g | ⟨p, a, b, r', s', g1, g2, g3⟩ | ⟨p, a, b, r', s', g1, g2, g3⟩
      · exact .inl (by rw [g])
      · exact .inr (.inl ⟨v :: p, a, b, r', s', by rw [g1]; rfl, by rw [g2]; rfl, g3⟩)
      · exact .inr (.inr ⟨v :: p, a, b, r', s', by rw [g1]; rfl, by rw [g2]; rfl, g3⟩)
    · exact .inr (.inl ⟨[], v, u, r, s, rfl, rfl, e⟩)
    · exact .inr (.inr ⟨[], u, v, s, r, rfl, rfl, e⟩)
theorem keysR_app (p q : Cr) : keysR (p ++ q) = keysR p ++ keysR q := List.flatMap_append
theorem rows_lt {r s : Cr} (h : rowlt r s) (hr : ∀ v ∈ r, v.ok) (hs : ∀ v ∈ s, v.ok) (ys zs : List Nat) : ltN (keysR r ++ ys) (keysR s ++ zs) = true := by
  obtain ⟨p, v, u, r', s', rfl, rfl, h⟩ := h
  rw [keysR_app, keysR_app, List.append_assoc, List.append_assoc, ltN_same]
  show ltN ((keyV v ++ keysR r') ++ ys) ((keyV u ++ keysR s') ++ zs) = true
  rw [List.append_assoc, List.append_assoc]
  exact key_lt h (hr v (by simp)) (hs u (by simp)) _ _
abbrev rvl (r : Cr) : Row := r.map Cv.vl
theorem rows_pl {r s : Cr} (h : rowlt r s) : ltD (keyR (rvl r)) (keyR (rvl s)) = true := by
  obtain ⟨p, v, u, r', s', rfl, rfl, h⟩ := h
  rw [ltD_toks, keyR, keyR, toks_tup, toks_tup]
  have go : ∀ p : Cr, PyProof.Rows.lexLt PyProof.Rows.itemOrd (PySem.W.keyToksAll (pys ((rvl (p ++ v :: r')).map plV))) (PySem.W.keyToksAll (pys ((rvl (p ++ u :: s')).map plV))) = true := by
    intro p
    induction p with
    | nil =>
      show PyProof.Rows.lexLt PyProof.Rows.itemOrd (PySem.W.keyToksAll (pys (plV v.vl :: (rvl r').map plV))) (PySem.W.keyToksAll (pys (plV u.vl :: (rvl s').map plV))) = true
      rw [toksAll_cons, toksAll_cons, PyProof.Rows.lex_self]
      exact pl_lt h _ _
    | cons z p ih =>
      show PyProof.Rows.lexLt PyProof.Rows.itemOrd (PySem.W.keyToksAll (pys (plV z.vl :: (rvl (p ++ v :: r')).map plV))) (PySem.W.keyToksAll (pys (plV z.vl :: (rvl (p ++ u :: s')).map plV))) = true
      rw [toksAll_cons, toksAll_cons, PyProof.Rows.lex_self, toks_pl]
      simp only [List.cons_append, List.nil_append]
      repeat rw [PyProof.Rows.lex_self]
      exact ih
  exact go p
/-- rows in order have keys in order -/
theorem keys_le {r s : Cr} (hl : r.length = s.length) (hr : ∀ v ∈ r, v.ok) (hs : ∀ v ∈ s, v.ok) (h : leR (rvl r) (rvl s)) : ltN (keysR s) (keysR r) = false := by
  rcases rowlt_tri hl with e | e | e
  · rw [e]
    exact ltN_irrefl _
  · have := rows_lt e hr hs [] []
    rw [List.append_nil, List.append_nil] at this
    exact ltN_asymm this
  · have z := rows_pl e
    unfold leR at h
    rw [h] at z
    cases z
theorem rowlt_irrefl {r : Cr} (hr : ∀ v ∈ r, v.ok) : ¬ rowlt r r := fun h => by
  have := rows_lt h hr hr [] []
  rw [ltN_irrefl] at this
  cases this
/-- no row's key begins another's -/
theorem keys_free {r s : Cr} (hl : r.length = s.length) (hr : ∀ v ∈ r, v.ok) (hs : ∀ v ∈ s, v.ok) (h : (keysR s).take (keysR r).length = keysR r) : r = s := by
  have e : keysR s = keysR r ++ (keysR s).drop (keysR r).length := by
    conv => lhs; rw [← List.take_append_drop (keysR r).length (keysR s), h]
  rcases rowlt_tri hl with g | g | g
  · exact g
  · have := rows_lt g hr hs ((keysR s).drop (keysR r).length) []
    rw [List.append_nil, ← e, ltN_irrefl] at this
    cases this
  · have := rows_lt g hs hr [] ((keysR s).drop (keysR r).length)
    rw [List.append_nil, ← e, ltN_irrefl] at this
    cases this
end Bg
namespace Bg
open PySem L2 Dv
def Cv.small : Cv → Prop
  | .non => True
  | .num n => n.natAbs < 2 ^ 64
  | .txt ks => ks.length ≤ 1000
def Cv.keyok : Cv → Prop
  | .non => True
  | .num n => (bigs n.natAbs).length ≤ 255
  | .txt ks => ks.length ≤ 1000
theorem Cv.keyok.ok {v : Cv} (h : v.keyok) : v.ok := by cases v <;> first | trivial | exact h
theorem Cv.small.key {v : Cv} (h : v.small) : v.keyok := by
  cases v with
  | num n =>
    have h : n.natAbs < 2 ^ 64 := h
    have := bigs_len 7 n.natAbs (by omega)
    show (bigs n.natAbs).length ≤ 255
    omega
  | _ => exact h
theorem codeN_line (n : Int) : D.tup ((codeN n).map .int) = lineD (digs (zig n)) := by
  unfold codeN lineD
  rw [List.map_map]
  rfl
theorem addP_line (a b : List Nat) (R : D → Prop) : addP (lineD a) (lineD b) R = (a.length + b.length ≤ sizeLine ∧ R (lineD (a ++ b))) := by
  unfold lineD
  rw [addP_tup, List.length_map, List.length_map, List.map_append]
end Bg

set_option Elab.async false
set_option linter.all false
set_option maxRecDepth 100000
/-! Facts for the law of codes. -/
namespace Bg
open PySem L2 Dv
theorem digs_bd (n : Nat) : ∀ x ∈ digs n, x < 256 := by
  induction n using Nat.strongRecOn with
  | ind n ih =>
    by_cases h : n < 128
    · rw [digs_lt h]
      intro x hx
      rw [List.mem_singleton.mp hx]
      omega
    · rw [digs_ge h]
      intro x hx
      rcases List.mem_cons.mp hx with z | z
      · omega
      · exact ih _ (by omega) x z
theorem codeV_bd (v : Cv) : ∀ x ∈ codeV v, x < 256 := by
  cases v with
  | non => simp [codeV]
  | num n =>
    intro x hx
    rcases List.mem_cons.mp hx with z | z
    · omega
    · exact digs_bd _ x z
  | txt ks =>
    intro x hx
    rcases List.mem_cons.mp hx with z | z
    · omega
    · rcases List.mem_append.mp z with z | z
      · exact digs_bd _ x z
      · obtain ⟨k, _, rfl⟩ := List.mem_map.mp z
        have := k.isLt
        omega
theorem codeR_bd (r : Cr) : ∀ x ∈ codeR r, x < 256 := fun x hx => by
  rcases List.mem_append.mp hx with z | z
  · exact digs_bd _ x z
  · obtain ⟨v, _, h⟩ := List.mem_flatMap.mp z
    exact codeV_bd v x h
theorem keyV_bd (v : Cv) (hv : v.ok) : ∀ x ∈ keyV v, x < 256 := by
  cases v with
  | non => simp [keyV]
  | num n =>
    have hv : (bigs n.natAbs).length ≤ 255 := hv
    intro x hx
    rw [keyV] at hx
    split at hx
    · rcases List.mem_cons.mp hx with z | z
      · omega
      · rcases List.mem_cons.mp z with z | z
        · omega
        · exact bigs_bd _ x z
    · rcases List.mem_cons.mp hx with z | z
      · omega
      · rcases List.mem_cons.mp z with z | z
        · omega
        · obtain ⟨y, _, rfl⟩ := List.mem_map.mp z
          omega
  | txt ks =>
    intro x hx
    rcases List.mem_cons.mp hx with z | z
    · omega
    · rcases List.mem_append.mp z with z | z
      · obtain ⟨k, _, rfl⟩ := List.mem_map.mp z
        have := k.isLt
        omega
      · simp at z
        omega
theorem keysR_bd (r : Cr) (hr : ∀ v ∈ r, v.ok) : ∀ x ∈ keysR r, x < 256 := fun x hx => by
  obtain ⟨v, hv, h⟩ := List.mem_flatMap.mp hx
  exact keyV_bd v (hr v hv) x h
theorem crD_row (r : Cr) : crD r = rowD (rvl r) := by
  unfold crD rowD rvl
  rw [List.map_map]
  congr 1
  exact List.map_congr_left fun v _ => (vl_d v).symm
theorem rvl_inj {r s : Cr} (h : rvl r = rvl s) : r = s := (List.map_inj_right fun _ _ e => vl_inj e).mp h
open Classical in
noncomputable def unrow (R : Row) : Cr := if h : ∃ r, rvl r = R then h.choose else []
theorem unrow_rvl (r : Cr) : unrow (rvl r) = r := by
  have h : ∃ s, rvl s = rvl r := ⟨r, rfl⟩
  unfold unrow
  rw [dif_pos h]
  exact rvl_inj h.choose_spec
/-- the rows of a bag -/
theorem bag_rows (rs : List Cr) : ∃ ss : List Cr, ss.Perm rs ∧ bagR (rs.map rvl) = ss.map rvl ∧ ss.Pairwise fun r s => leR (rvl r) (rvl s) := by
  have hp := bagR_perm_self (rs.map rvl)
  have hs := bagR_sorted (rs.map rvl)
  have e : bagR (rs.map rvl) = ((bagR (rs.map rvl)).map unrow).map rvl := by
    rw [List.map_map]
    conv => lhs; rw [← List.map_id (bagR (rs.map rvl))]
    refine List.map_congr_left fun R hR => ?_
    obtain ⟨r, _, rfl⟩ := List.mem_map.mp (hp.subset hR)
    show rvl r = rvl (unrow (rvl r))
    rw [unrow_rvl]
  refine ⟨(bagR (rs.map rvl)).map unrow, ?_, e, ?_⟩
  · have := hp.map unrow
    rw [List.map_map] at this
    have e2 : rs.map (unrow ∘ rvl) = rs := by
      conv => rhs; rw [← List.map_id rs]
      exact List.map_congr_left fun r _ => unrow_rvl r
    rwa [e2] at this
  · rw [e] at hs
    exact List.pairwise_map.mp hs
theorem smOk_line (n : Nat) (xs : List Nat) : smOk (n + 2) (lineD xs) = true := by
  rw [lineD, smOk, List.all_map]
  exact List.all_eq_true.mpr fun x _ => rfl
theorem smOk_cr (n : Nat) (r : Cr) : smOk (n + 2) (crD r) = true := by
  rw [crD_row]
  exact sm_row _ n
theorem alike_line (xs ys : List Nat) : alikeD (lineD xs) (lineD ys) = true := by
  have go : ∀ xs ys : List Nat, PySem.W.alikeAll (pys (xs.map fun (b : Nat) => D.int b)) (pys (ys.map fun (b : Nat) => D.int b)) = true := by
    intro xs
    induction xs with
    | nil => intro ys; cases ys <;> simp [pys, PySem.W.alikeAll]
    | cons x xs ih =>
      intro ys
      cases ys with
      | nil => simp [pys, PySem.W.alikeAll]
      | cons y ys =>
        rw [List.map_cons, List.map_cons, pys_cons, pys_cons, PySem.W.alikeAll, ih ys]
        simp [D.py, PySem.W.alike]
  show PySem.W.alike (lineD xs).py (lineD ys).py = true
  rw [lineD, lineD, py_tup, py_tup, PySem.W.alike]
  exact go xs ys
def linesD (ss : List (List Nat)) : List D := ss.map lineD
theorem sort_lines (ss : List (List Nat)) (h : ss.Pairwise fun a b => ltN b a = false) : sortD (linesD ss) = linesD ss := by
  refine List.mergeSort_of_pairwise ?_
  unfold linesD
  rw [List.pairwise_map]
  refine h.imp fun {a b} z => ?_
  rw [lineD_lt, z]
  rfl
theorem take_of_drop {α : Type} {ys zs : List α} {q : Nat} (h : ys = zs ++ ys.drop q) (hq : q ≤ ys.length) : ys.take q = zs := by
  have hl := congrArg List.length h
  rw [List.length_append, List.length_drop] at hl
  have : q = zs.length := by omega
  conv => lhs; rw [h, this, List.take_left]
theorem cut_to (xs : List Nat) (k : Nat) : slD (lineD xs) none (some (k : Nat)) = some (lineD (xs.take k)) := by
  unfold lineD
  rw [slD_tup, cutD, HT.sIx_none, HT.sIx_nat, List.length_map, List.drop_zero, Nat.sub_zero, ← List.map_take]
  congr 3
  rcases Nat.le_total k xs.length with h | h
  · rw [Nat.min_eq_left h]
  · rw [Nat.min_eq_right h, List.take_of_length_le (Nat.le_refl _), List.take_of_length_le h]
theorem cut_from (xs : List Nat) (k : Nat) : slD (lineD xs) (some (k : Nat)) none = some (lineD (xs.drop k)) := by
  unfold lineD
  rw [slD_tup, cutD, HT.sIx_none, HT.sIx_nat, List.length_map, ← List.map_drop, ← List.map_take]
  congr 3
  rcases Nat.le_total k xs.length with h | h
  · rw [Nat.min_eq_left h, List.take_of_length_le (by rw [List.length_drop]; omega)]
  · rw [Nat.min_eq_right h, Nat.sub_self, List.take_zero, List.drop_eq_nil_of_le h]
end Bg

set_option Elab.async false
set_option linter.all false
set_option maxRecDepth 100000
/-! Things that change, by their places: lists, dicts of ints and texts, instances. -/
namespace Dv
open PySem L2
inductive Cell where
  | lst (xs : List D)
  | dct (kvs : List (Key × D))
  | ins (C : Addr) (fs : List (Str × D))
  | lck (od : Obj) (vs : List (Key × V)) (kvs : List (Key × D))
inductive RpP (c : Cn) (H : Hp) {κ : Type} : List (κ × V) → List (κ × D) → Prop
  | nil : RpP c H [] []
  | cons {k : κ} {v : V} {d : D} {vs : List (κ × V)} {ds : List (κ × D)} : Rp c H v d → RpP c H vs ds → RpP c H ((k, v) :: vs) ((k, d) :: ds)
section
variable {c : Cn} {H H' : Hp} {κ : Type}
theorem RpP.same (e : Same H H') : ∀ {vs : List (κ × V)} {ds : List (κ × D)}, RpP c H vs ds → RpP c H' vs ds
  | _, _, .nil => .nil
  | _, _, .cons h t => .cons (h.same e) (RpP.same e t)
theorem RpP.length : ∀ {vs : List (κ × V)} {ds : List (κ × D)}, RpP c H vs ds → vs.length = ds.length
  | _, _, .nil => rfl
  | _, _, .cons _ t => by rw [List.length_cons, List.length_cons, RpP.length t]
theorem RpP.keys : ∀ {vs : List (κ × V)} {ds : List (κ × D)}, RpP c H vs ds → vs.map (·.1) = ds.map (·.1)
  | _, _, .nil => rfl
  | _, _, .cons _ t => by rw [List.map_cons, List.map_cons, RpP.keys t]
theorem RpP.append : ∀ {vs ws : List (κ × V)} {ds es : List (κ × D)}, RpP c H vs ds → RpP c H ws es → RpP c H (vs ++ ws) (ds ++ es)
  | _, _, _, _, .nil, s => s
  | _, _, _, _, .cons h t, s => .cons h (RpP.append t s)
end
section
variable {c : Cn} {H H' : Hp}
/-- fields -/
def getF (f : Str) : List (Str × D) → Option D
  | [] => none
  | (g, x) :: r => if g = f then some x else getF f r
def setFD (f : Str) (v : D) : List (Str × D) → List (Str × D)
  | [] => [(f, v)]
  | (g, x) :: r => if g = f then (g, v) :: r else (g, x) :: setFD f v r
theorem lookup_cons_str (f g : Str) (v : V) (r : List (Str × V)) : List.lookup f ((g, v) :: r) = if g = f then some v else List.lookup f r := by
  rw [List.lookup_cons]
  by_cases h : g = f
  · rw [if_pos h, h, beq_self_eq_true]
  · have : (f == g) = false := beq_eq_false_iff_ne.mpr fun z => h z.symm
    rw [if_neg h, this]
theorem RpP.look {f : Str} : ∀ {vs : List (Str × V)} {ds : List (Str × D)} {d : D}, RpP c H vs ds → getF f ds = some d → ∃ v, vs.lookup f = some v ∧ Rp c H v d
  | _, _, _, .nil, e => by cases e
  | _, _, d, .cons (k := k) (v := v) (d := d0) h t, e => by
    rw [getF] at e
    rw [lookup_cons_str]
    by_cases q : k = f
    · rw [if_pos q] at e ⊢
      cases e
      exact ⟨v, rfl, h⟩
    · rw [if_neg q] at e ⊢
      exact RpP.look t e
theorem RpP.lookN {f : Str} : ∀ {vs : List (Str × V)} {ds : List (Str × D)}, RpP c H vs ds → getF f ds = none → vs.lookup f = none
  | _, _, .nil, e => rfl
  | _, _, .cons (k := k) (v := v) (d := d0) h t, e => by
    rw [getF] at e
    rw [lookup_cons_str]
    by_cases q : k = f
    · rw [if_pos q] at e; cases e
    · rw [if_neg q] at e ⊢
      exact RpP.lookN t e
theorem RpP.putF {f : Str} {v : V} {d : D} (r : Rp c H v d) : ∀ {vs : List (Str × V)} {ds : List (Str × D)}, RpP c H vs ds → RpP c H (L2.putF f v vs) (setFD f d ds)
  | _, _, .nil => .cons r .nil
  | _, _, .cons (k := k) (v := w) (d := d0) h t => by
    rw [L2.putF, setFD]
    by_cases q : k = f
    · rw [if_pos q, if_pos q]
      exact .cons r t
    · rw [if_neg q, if_neg q]
      exact .cons h (RpP.putF r t)
/-- dicts of ints and texts -/
def valD (kvs : List (Key × D)) (k : Key) : Option D := (kvs.find? fun kv => decide (kv.1 = k)).map (·.2)
def putD (kvs : List (Key × D)) (k : Key) (v : D) : List (Key × D) :=
  if (kvs.any fun kv => decide (kv.1 = k)) = true then kvs.map (fun kv => if kv.1 = k then (kv.1, v) else kv) else kvs ++ [(k, v)]
def dropD (kvs : List (Key × D)) (k : Key) : List (Key × D) := kvs.filter fun kv => decide (kv.1 ≠ k)
theorem valD_nil {k : Key} : valD [] k = none := rfl
theorem valD_cons (p : Key × D) (r : List (Key × D)) (k : Key) : valD (p :: r) k = if p.1 = k then some p.2 else valD r k := by
  unfold valD
  rw [List.find?_cons]
  by_cases h : p.1 = k
  · rw [if_pos h, decide_eq_true h]
    rfl
  · rw [if_neg h, decide_eq_false h]
theorem valV_cons (p : Key × V) (r : List (Key × V)) (k : Key) : valV (p :: r) k = if p.1 = k then some p.2 else valV r k := by
  by_cases h : p.1 = k
  · rw [if_pos h, valV_pos h]
  · rw [if_neg h, valV_neg h]
theorem RpP.val {k : Key} : ∀ {vs : List (Key × V)} {ds : List (Key × D)} {d : D}, RpP c H vs ds → valD ds k = some d → ∃ v, valV vs k = some v ∧ Rp c H v d
  | _, _, _, .nil, e => by cases e
  | _, _, d, .cons h t, e => by
    rw [valD_cons] at e
    rw [valV_cons]
    split at e
    · rename_i q
      cases e
      exact ⟨_, if_pos q, h⟩
    · rename_i q
      obtain ⟨v, a, b⟩ := RpP.val t e
      exact ⟨v, by rw [if_neg q]; exact a, b⟩
theorem RpP.valN {k : Key} : ∀ {vs : List (Key × V)} {ds : List (Key × D)}, RpP c H vs ds → valD ds k = none → valV vs k = none
  | _, _, .nil, e => rfl
  | _, _, .cons h t, e => by
    rw [valD_cons] at e
    rw [valV_cons]
    split at e
    · cases e
    · rename_i q
      rw [if_neg q]
      exact RpP.valN t e
theorem RpP.isSome {k : Key} {vs : List (Key × V)} {ds : List (Key × D)} (r : RpP c H vs ds) : (valV vs k).isSome = (valD ds k).isSome := by
  cases e : valD ds k with
  | none => rw [r.valN e]; rfl
  | some d =>
    obtain ⟨v, a, _⟩ := r.val e
    rw [a]
    rfl
theorem RpP.any {k : Key} : ∀ {vs : List (Key × V)} {ds : List (Key × D)}, RpP c H vs ds → (vs.any fun kv => decide (kv.1 = k)) = (ds.any fun kv => decide (kv.1 = k))
  | _, _, .nil => rfl
  | _, _, .cons h t => by rw [List.any_cons, List.any_cons, RpP.any t]
theorem RpP.mapPut {k : Key} {v : V} {d : D} (r : Rp c H v d) : ∀ {vs : List (Key × V)} {ds : List (Key × D)}, RpP c H vs ds → RpP c H (vs.map fun kv => if kv.1 = k then (kv.1, v) else kv) (ds.map fun kv => if kv.1 = k then (kv.1, d) else kv)
  | _, _, .nil => .nil
  | _, _, .cons (k := j) h t => by
    rw [List.map_cons, List.map_cons]
    by_cases q : j = k
    · simp only [q, if_true]
      exact .cons r (RpP.mapPut r t)
    · simp only [q, if_false]
      exact .cons h (RpP.mapPut r t)
theorem RpP.put {k : Key} {v : V} {d : D} (r : Rp c H v d) {vs : List (Key × V)} {ds : List (Key × D)} (h : RpP c H vs ds) : RpP c H (putK vs k v) (putD ds k d) := by
  unfold putK putD
  rw [h.any]
  split
  · exact h.mapPut r
  · exact h.append (.cons r .nil)
theorem RpP.drop {k : Key} : ∀ {vs : List (Key × V)} {ds : List (Key × D)}, RpP c H vs ds → RpP c H (dropK vs k) (dropD ds k)
  | _, _, .nil => .nil
  | _, _, .cons (k := j) (v := v) (d := d) h t => by
    have ih := RpP.drop (k := k) t
    unfold dropK dropD at ih ⊢
    rw [List.filter_cons, List.filter_cons]
    by_cases q : j = k
    · have e : decide (j ≠ k) = false := decide_eq_false fun z => z q
      simp only [e]
      exact ih
    · have e : decide (j ≠ k) = true := decide_eq_true q
      simp only [e]
      exact .cons h ih
theorem putD_len (kvs : List (Key × D)) (k : Key) (v : D) : (putD kvs k v).length ≤ kvs.length + 1 := by
  unfold putD
  split
  · simp
  · simp
end
inductive CellR (c : Cn) (Hs : Hp) : HO → Cell → Prop
  | lst {vs : List V} {xs : List D} (z : xs.length ≤ sizeLine) : RpA c Hs vs xs → CellR c Hs (.lst vs) (.lst xs)
  | dct {vs : List (Key × V)} {kvs : List (Key × D)} (z : kvs.length ≤ sizeLine) : RpP c Hs vs kvs → CellR c Hs (.dK vs) (.dct kvs)
  | ins {C dx : Addr} {vs : List (Str × V)} {fs : List (Str × D)} : RpP c Hs vs fs → CellR c Hs (.ins C dx vs) (.ins C fs)
  | lck {od : Obj} {vs : List (Key × V)} {kvs : List (Key × D)} (z : kvs.length ≤ sizeLine) : RpP c Hs vs kvs → CellR c Hs (.frz od (.dK vs)) (.lck od vs kvs)
theorem CellR.same {c : Cn} {H H' : Hp} {o : HO} {u : Cell} (e : Same H H') (h : CellR c H o u) : CellR c H' o u := by
  cases h with
  | lst z r => exact .lst z (r.same e)
  | dct z r => exact .dct z (r.same e)
  | ins r => exact .ins (r.same e)
  | lck z r => exact .lck z (r.same e)
abbrev Cs := Addr → Option Cell
def updS (s : Cs) (a : Addr) (u : Cell) : Cs := fun b => if b = a then some u else s b
theorem updS_same {s : Cs} {a : Addr} {u : Cell} : updS s a u a = some u := if_pos rfl
theorem updS_ne {s : Cs} {a b : Addr} {u : Cell} (h : b ≠ a) : updS s a u b = s b := if_neg h
/-- the world of the cells -/
@[reducible] def Wc (c : Cn) : Wld where
  S := Cs
  own s a := s a ≠ none
  rel s Hs H := ∀ a u, s a = some u → Hs a = none ∧ ∃ o, H a = some o ∧ CellR c Hs o u
  keep := fun {s Hs H Hs' H'} r f n k a u e => by
    obtain ⟨h1, o, h2, h3⟩ := r a u e
    have hn : s a ≠ none := by rw [e]; exact fun z => nomatch z
    exact ⟨n a hn h1, o, by rw [k a hn]; exact h2, h3.same f⟩
  there := fun {s Hs H a} r e q => by
    cases z : s a with
    | none => exact e z
    | some u =>
      obtain ⟨_, o, h, _⟩ := r a u z
      rw [h] at q
      cases q
section
variable {c : Cn} {s : Cs} {Hs H : Hp} {a : Addr} {u u' : Cell} {o o' : HO}
theorem wc_own (e : s a = some u) : (Wc c).own s a := fun z => by
  have z : s a = none := z
  rw [e] at z
  cases z
theorem wc_up {b : Addr} (q : (Wc c).own (updS s a u) b) (z : b ≠ a) : (Wc c).own s b := fun y => q (by
  show updS s a u b = none
  rw [updS_ne z]
  exact y)
theorem wc_upd (r : (Wc c).rel s Hs H) (hs : Same Hs H) (e : s a = some u) (k : CellR c Hs o' u') : Go (Wc c) s Hs H (updS s a u') Hs (upd H a o') := by
  obtain ⟨h1, o, h2, h3⟩ := r a u e
  refine ⟨Same.refl _, fun b q hb => ?_, fun _ q => .inl q, fun b q hb n => ?_, fun b q => ?_, fun b q => ?_, fun b v hb => ?_⟩
  · rw [upd_ne (fun z => by rw [z, h1] at hb; cases hb)]
    exact hs b q hb
  · rw [upd_ne (fun z => n (by rw [z]; exact wc_own e))]
    exact hb
  · by_cases z : b = a
    · rw [z, upd_same]; exact fun y => nomatch y
    · rw [upd_ne z]; exact q
  · by_cases z : b = a
    · exact .inl (by rw [z]; exact wc_own e)
    · exact .inl (wc_up q z)
  · by_cases z : b = a
    · subst z
      rw [updS_same] at hb
      cases hb
      exact ⟨h1, o', upd_same, k⟩
    · rw [updS_ne z] at hb
      rw [upd_ne z]
      exact r b v hb
theorem wc_new (r : (Wc c).rel s Hs H) (hs : Same Hs H) (hp : H a = none) (k : CellR c Hs o u) : Go (Wc c) s Hs H (updS s a u) Hs (upd H a o) := by
  have h1 : Hs a = none := hs.free hp
  refine ⟨Same.refl _, fun b q hb => ?_, fun _ q => .inl q, fun b q hb n => ?_, fun b q => ?_, fun b q => ?_, fun b v hb => ?_⟩
  · rw [upd_ne (fun z => by rw [z, h1] at hb; cases hb)]
    exact hs b q hb
  · rw [upd_ne (fun z => by rw [z, hp] at hb; cases hb)]
    exact hb
  · by_cases z : b = a
    · rw [z, upd_same]; exact fun y => nomatch y
    · rw [upd_ne z]; exact q
  · by_cases z : b = a
    · exact .inr (by rw [z]; exact hp)
    · exact .inl (wc_up q z)
  · by_cases z : b = a
    · subst z
      rw [updS_same] at hb
      cases hb
      exact ⟨h1, o, upd_same, k⟩
    · rw [updS_ne z] at hb
      rw [upd_ne z]
      exact r b v hb
/-- a new place is no cell's -/
theorem wc_free (r : (Wc c).rel s Hs H) (hp : H a = none) : s a = none := by
  cases z : s a with
  | none => rfl
  | some u =>
    obtain ⟨_, o, h, _⟩ := r a u z
    rw [h] at hp
    cases hp
end
/-- a world that has the cells as a part -/
structure Sub (c : Cn) (W : Wld) where
  get : W.S → Cs
  put : W.S → Cs → W.S
  rel : ∀ {s : W.S} {Hs H : Hp}, W.rel s Hs H → (Wc c).rel (get s) Hs H
  step : ∀ {s : W.S} {Hs H : Hp} {t : Cs} {Hs' H' : Hp}, W.rel s Hs H → Go (Wc c) (get s) Hs H t Hs' H' → Go W s Hs H (put s t) Hs' H'
def Sub.self (c : Cn) : Sub c (Wc c) := ⟨fun s => s, fun _ t => t, fun h => h, fun _ g => g⟩
theorem self_get {c : Cn} (s : Cs) : (Sub.self c).get s = s := rfl
theorem self_put {c : Cn} (s t : Cs) : (Sub.self c).put s t = t := rfl
/-- two worlds side by side -/
@[reducible] def Wp (W1 W2 : Wld) : Wld where
  S := W1.S × W2.S
  own s a := W1.own s.1 a ∨ W2.own s.2 a
  rel s Hs H := W1.rel s.1 Hs H ∧ W2.rel s.2 Hs H ∧ ∀ a, W1.own s.1 a → ¬ W2.own s.2 a
  keep := fun r f n k => ⟨W1.keep r.1 f (fun a q => n a (.inl q)) fun a q => k a (.inl q), W2.keep r.2.1 f (fun a q => n a (.inr q)) fun a q => k a (.inr q), r.2.2⟩
  there := fun r q => by
    rcases q with q | q
    · exact W1.there r.1 q
    · exact W2.there r.2.1 q
section
variable {W1 W2 : Wld} {s : W1.S × W2.S} {Hs H Hs' H' : Hp}
theorem Go.fst {t : W1.S} (r : (Wp W1 W2).rel s Hs H) (g : Go W1 s.1 Hs H t Hs' H') : Go (Wp W1 W2) s Hs H (t, s.2) Hs' H' := by
  have h2 : ∀ a, W2.own s.2 a → ¬ W1.own s.1 a := fun a q z => r.2.2 a z q
  refine ⟨g.fz, g.sub, g.new, fun a o q n => g.ext a o q fun z => n (.inl z), g.th, fun a q => ?_, g.rel, ?_, fun a q z => ?_⟩
  · rcases q with q | q
    · rcases g.wn a q with y | y
      · exact .inl (.inl y)
      · exact .inr y
    · exact .inl (.inr q)
  · refine W2.keep r.2.1 g.fz (fun a q e => ?_) fun a q => ?_
    · cases z : Hs' a with
      | none => rfl
      | some u =>
        rcases g.new a (by rw [z]; exact fun y => nomatch y) with y | y
        · exact absurd e y
        · exact absurd y (W2.there r.2.1 q)
    · obtain ⟨o, e⟩ := ne_none (W2.there r.2.1 q)
      rw [e, g.ext a o e (h2 a q)]
  · rcases g.wn a q with y | y
    · exact r.2.2 a y z
    · exact absurd y (W2.there r.2.1 z)
theorem Go.snd {t : W2.S} (r : (Wp W1 W2).rel s Hs H) (g : Go W2 s.2 Hs H t Hs' H') : Go (Wp W1 W2) s Hs H (s.1, t) Hs' H' := by
  refine ⟨g.fz, g.sub, g.new, fun a o q n => g.ext a o q fun z => n (.inr z), g.th, fun a q => ?_, ?_, g.rel, fun a q z => ?_⟩
  · rcases q with q | q
    · exact .inl (.inl q)
    · rcases g.wn a q with y | y
      · exact .inl (.inr y)
      · exact .inr y
  · refine W1.keep r.1 g.fz (fun a q e => ?_) fun a q => ?_
    · cases z : Hs' a with
      | none => rfl
      | some u =>
        rcases g.new a (by rw [z]; exact fun y => nomatch y) with y | y
        · exact absurd e y
        · exact absurd y (W1.there r.1 q)
    · obtain ⟨o, e⟩ := ne_none (W1.there r.1 q)
      rw [e, g.ext a o e (r.2.2 a q)]
  · rcases g.wn a z with y | y
    · exact r.2.2 a q y
    · exact absurd y (W1.there r.1 q)
end
/-- the cells beside another world -/
def Sub.snd (c : Cn) (W1 : Wld) : Sub c (Wp W1 (Wc c)) := ⟨fun s => s.2, fun s t => (s.1, t), fun h => h.2.1, fun h g => Go.snd h g⟩
theorem snd_get {c : Cn} {W1 : Wld} (s : W1.S × Cs) : (Sub.snd c W1).get s = s.2 := rfl
theorem snd_put {c : Cn} {W1 : Wld} (s : W1.S × Cs) (t : Cs) : (Sub.snd c W1).put s t = (s.1, t) := rfl
/-- a promise over the first world -/
def okFst {W1 : Wld} (W2 : Wld) (ok : OkD W1) : OkD (Wp W1 W2) := fun ds s R => ok ds s.1 fun d t => R d (t, s.2)
theorem spD_fst {c : Cn} {W1 W2 : Wld} {n : Nat} {ok : OkD W1} {vs : List V} {H : Hp} {Q : VK} {E : XK} (h : spD c (Wp W1 W2) n (okFst W2 ok) vs H Q E) : spD c W1 n ok vs H Q E := by
  obtain ⟨Hs, s, ds, R, r, hs, ra, hl, ho, k⟩ := h
  exact ⟨Hs, s.1, ds, _, r.1, hs, ra, hl, ho, fun d t Hs' H' v hR g rv => k d (t, s.2) Hs' H' v hR (Go.fst r g) rv⟩
/-- a promise over the cells -/
def okV {c : Cn} {W : Wld} (U : Sub c W) (ok : OkD (Wc c)) : OkD W := fun ds s R => ok ds (U.get s) fun d t => R d (U.put s t)
theorem spD_sub {c : Cn} {W : Wld} {U : Sub c W} {n : Nat} {ok : OkD (Wc c)} {vs : List V} {H : Hp} {Q : VK} {E : XK} (h : spD c W n (okV U ok) vs H Q E) : spD c (Wc c) n ok vs H Q E := by
  obtain ⟨Hs, s, ds, R, r, hs, ra, hl, ho, k⟩ := h
  exact ⟨Hs, U.get s, ds, _, U.rel r, hs, ra, hl, ho, fun d t Hs' H' v hR g rv => k d (U.put s t) Hs' H' v hR (U.step r g) rv⟩
def okVX {c : Cn} {W : Wld} (U : Sub c W) (ok : OkX (Wc c)) : OkX W := fun ds s R RE => ok ds (U.get s) (fun d t => R d (U.put s t)) fun cls t => RE cls (U.put s t)
theorem spX_sub {c : Cn} {W : Wld} {U : Sub c W} {n : Nat} {ok : OkX (Wc c)} {vs : List V} {H : Hp} {Q : VK} {E : XK} (h : spX c W n (okVX U ok) vs H Q E) : spX c (Wc c) n ok vs H Q E := by
  obtain ⟨Hs, s, ds, R, RE, r, hs, ra, hl, ho, k, kE⟩ := h
  exact ⟨Hs, U.get s, ds, _, _, U.rel r, hs, ra, hl, ho, fun d t Hs' H' v hR g rv => k d (U.put s t) Hs' H' v hR (U.step r g) rv, fun cls t Hs' H' hR g => kE cls (U.put s t) Hs' H' hR (U.step r g)⟩
end Dv

set_option Elab.async false
set_option linter.all false
set_option maxRecDepth 100000
/-! Fields, methods, new instances. -/
namespace Dv
open PySem L2 PyProof.Rows
/-- the facts of an own class; fs: its fields' names -/
structure ClF (K : PySem.W.Frag) (C : Addr) (fs : List Str) : Prop where
  cls : Cls K C
  na : ∀ f ∈ fs, NoAttr K C f
section
variable {W : Wld} {B : Bs W} {X : Cx} {e o value : Expr} {es : List Expr} {te tv to : TD W} {ta : TDA W} {pos pos' tpos p' apos : Pos} {f m x : Str} {C : Addr} {fs : List Str} {U : Sub (cn X) W} {k n : Nat} {ps : List Str}
/-- e.f -/
def dFld (C : Addr) {c : Cn} (U : Sub c W) (f : Str) (te : TD W) : TD W := fun ρ s Q => te ρ s fun d s1 => ∃ a gs v, d = .raw (.ref a) ∧ U.get s1 a = some (.ins C gs) ∧ getF f gs = some v ∧ Q v s1
theorem de_fld (U : Sub (cn X) W) (F : ClF X.K C fs) (hf : f ∈ fs) (he : DE W B X e te) (hb : attributeBase e f X.env (eval e X.env) = eval e X.env := by rfl) : DE W B X (.Attribute e f pos) (dFld C U f te) := by
  refine ⟨pe_imp (pe_fld he.run hb) fun σ H Q ⟨Hs, ρ, s, R, S, h1, kk⟩ => ?_⟩
  refine ⟨Hs, ρ, s, _, S, h1, fun d s1 Hs1 H1 v hR g r => ?_⟩
  obtain ⟨a, gs, w, rfl, hg, hl, hq⟩ := hR
  have ev : v = .ref a := by cases r; rfl
  subst ev
  obtain ⟨_, u, hu, cr⟩ := U.rel g.rel a _ hg
  cases cr with
  | ins rp =>
    obtain ⟨v', hv, rv⟩ := rp.look hl
    exact ⟨a, C, _, _, v', rfl, hu, F.cls, F.na f hf, hv, kk w s1 Hs1 H1 v' hq g rv⟩
/-- e.f = v -/
def dSetFld (C : Addr) {c : Cn} (U : Sub c W) (f : Str) (te tv : TD W) : TDS W := fun E ρ s => tv ρ s fun v s1 => te ρ s1 fun d s2 => ∃ a gs, d = .raw (.ref a) ∧ U.get s2 a = some (.ins C gs) ∧ gs.length < 1000 ∧ E.nx ρ (U.put s2 (updS (U.get s2) a (.ins C (setFD f v gs))))
theorem ds_fld (U : Sub (cn X) W) (F : ClF X.K C fs) (hf : f ∈ fs) (he : DE W B X o te) (hv : DE W B X value tv) (hs : swapsWith value (some (.Attribute o f pos')) pos.line X.env = pure false := by rfl) : DS W B X (.Assign [.Attribute o f pos'] value pos) (dSetFld C U f te tv) := by
  refine ⟨ps_imp (ps_fld he.run hv.run hs) fun D σ H ⟨Hs, ρ, s, E, S, h1, kk⟩ => ?_⟩
  refine ⟨Hs, ρ, s, _, S, h1, fun v s1 Hs1 H1 w hR g r => ?_⟩
  refine ⟨Hs1, ρ, s1, _, S.step g, hR, fun d s2 Hs2 H2 w2 hR2 g2 r2 => ?_⟩
  obtain ⟨a, gs, rfl, hg, hn, hq⟩ := hR2
  have ev : w2 = .ref a := by cases r2; rfl
  subst ev
  obtain ⟨_, u, hu, cr⟩ := U.rel g2.rel a _ hg
  cases cr with
  | @ins _ dx vs _ rp =>
    refine ⟨a, C, _, _, rfl, hu, F.cls, F.na f hf, by rw [rp.length]; exact hn, ?_⟩
    have g3 := U.step g2.rel (wc_upd (U.rel g2.rel) g2.sub hg (.ins (C := C) (dx := dx) (rp.putF (f := f) (r.same g2.fz))))
    exact kk.nx ρ _ _ _ _ hq (g.fz.trans (g2.fz.trans g3.fz)) (((S.step g).step g2).step g3)
/-- e.f += v, of ints -/
def dAugFld (C : Addr) {c : Cn} (U : Sub c W) (f : Str) (te tv : TD W) : TDS W := fun E ρ s => te ρ s fun d s1 => ∃ a gs i, d = .raw (.ref a) ∧ U.get s1 a = some (.ins C gs) ∧ getF f gs = some (.int i) ∧ tv ρ s1 fun v s2 => ∃ j gs', v = .int j ∧ U.get s2 a = some (.ins C gs') ∧ gs'.length < 1000 ∧
  E.nx ρ (U.put s2 (updS (U.get s2) a (.ins C (setFD f (.int (i + j)) gs'))))
theorem ds_fldaug (U : Sub (cn X) W) (F : ClF X.K C fs) (hf : f ∈ fs) (he : DE W B X o te) (hv : DE W B X value tv) : DS W B X (.AugAssign (.Attribute o f tpos) .Add value pos) (dAugFld C U f te tv) := by
  refine ⟨ps_imp (ps_fldaug he.run hv.run in_add) fun D σ H ⟨Hs, ρ, s, E, S, h1, kk⟩ => ?_⟩
  refine ⟨Hs, ρ, s, _, S, h1, fun d s1 Hs1 H1 w hR g r => ?_⟩
  obtain ⟨a, gs, i, rfl, hg, hi, hR⟩ := hR
  have ev : w = .ref a := by cases r; rfl
  subst ev
  obtain ⟨_, u, hu, cr⟩ := U.rel g.rel a _ hg
  cases cr with
  | ins rp =>
    obtain ⟨v', hv', rv⟩ := rp.look hi
    have := rv.intE
    subst this
    refine ⟨a, C, _, _, _, rfl, hu, F.cls, F.na f hf, hv', Hs1, ρ, s1, _, S.step g, hR, fun v s2 Hs2 H2 w2 hR2 g2 r2 => ?_⟩
    obtain ⟨j, gs', rfl, hg2, hn, hq⟩ := hR2
    have := r2.intE
    subst this
    obtain ⟨_, u2, hu2, cr2⟩ := U.rel g2.rel a _ hg2
    cases cr2 with
    | @ins _ dx2 vs2 _ rp2 =>
      refine ⟨i, j, rfl, rfl, _, _, hu2, by rw [rp2.length]; exact hn, ?_⟩
      have g3 := U.step g2.rel (wc_upd (U.rel g2.rel) g2.sub hg2 (.ins (C := C) (dx := dx2) (rp2.putF (f := f) (.int (i + j)))))
      exact kk.nx ρ _ _ _ _ hq (g.fz.trans (g2.fz.trans g3.fz)) (((S.step g).step g2).step g3)
/-- a method's promise -/
structure Mth (P : Program) (w : World) (K : PySem.W.Frag) (mg : Str → Option Value) (base : Heap) (CXT : CXT) (C : Addr) (m : Str) (k : Nat) (ps : List Str) (sp : Sp) : Prop where
  ex : ∃ f fd, Meth K C m f ∧ FnOk P w K mg base CXT k f fd ps sp ∧ Binds K fd ps []
theorem Mth.imp {P : Program} {w : World} {K : PySem.W.Frag} {mg : Str → Option Value} {base : Heap} {CXT : CXT} {C : Addr} {m : Str} {k : Nat} {ps : List Str} {sp sp' : Sp} (M : Mth P w K mg base CXT C m k ps sp) (h : ∀ vs H Q E, sp' vs H Q E → sp vs H Q E) : Mth P w K mg base CXT C m k ps sp' := by
  obtain ⟨f, fd, a, F, b⟩ := M.ex
  exact ⟨f, fd, a, F.imp h, b⟩
/-- o.m(..) -/
def dMeth (C : Addr) {c : Cn} (U : Sub c W) (m : Str) (n : Nat) (ok : OkD W) (to : TD W) (ta : TDA W) : TD W := fun ρ s Q => to ρ s fun d s1 => ∃ a gs, d = .raw (.ref a) ∧ U.get s1 a = some (.ins C gs) ∧ getF m gs = none ∧ ta ρ s1 fun ds s2 => (D.raw (.ref a) :: ds).length = n ∧ ok (.raw (.ref a) :: ds) s2 Q
theorem de_meth {pl : Sem Bool} {ok : OkD W} (U : Sub (cn X) W) (F : ClF X.K C fs) (M : Mth X.prog X.w X.K X.mg X.base CX0 C m k ps (spD (cn X) W n ok)) (hr : Room k X.A) (ho : DE W B X o to) (ha : DA W B X (e :: es) ta)
    (hst : starEach (e :: es) X.env = (false, eval e X.env) :: starEach es X.env := by rfl) (hpl : (backTo pos (starEach es X.env)).any (·.1) = false := by rfl)
    (ht : eval (.Call (.Attribute o m apos) (e :: es) [] pos) X.env = (do
      let ov ← eval o X.env
      standAt apos.atName
      let (f, first) ← holding [ov] (getMethod ov m pl)
      callWith pos f first (backTo pos (starEach (e :: es) X.env)) (backToKw pos (keywordEach [] X.env))) := by rfl) : DE W B X (.Call (.Attribute o m apos) (e :: es) [] pos) (dMeth C U m n ok to ta) := by
  obtain ⟨f, fd, hm, G, b⟩ := M.ex
  refine ⟨pe_imp (pe_meth (pl := pl) ho.run F.cls hm G hr b .nil pass0 ha.run hst hpl ht) fun σ H Q ⟨Hs, ρ, s, R, S, h1, kk⟩ => ?_⟩
  refine ⟨Hs, ρ, s, _, S, h1, fun d s1 Hs1 H1 v hR g r => ?_⟩
  obtain ⟨a, gs, rfl, hg, hn, hR⟩ := hR
  have ev : v = .ref a := by cases r; rfl
  subst ev
  obtain ⟨_, u, hu, cr⟩ := U.rel g.rel a _ hg
  cases cr with
  | ins rp =>
    refine ⟨a, _, _, rfl, hu, rp.lookN hn, Hs1, ρ, s1, _, S.step g, hR, fun ds s2 Hs2 H2 vs hR2 g2 rs => ?_⟩
    obtain ⟨hl, hok⟩ := hR2
    rw [List.append_nil]
    exact ⟨Hs2, s2, .raw (.ref a) :: ds, _, g2.rel, g2.sub, .cons (.raw _) rs, hl, hok, fun d s3 Hs3 H3 w hd g3 rw' => kk d s3 Hs3 H3 w hd (g.trans (g2.trans g3)) rw'⟩
/-- o.m() -/
theorem de_meth0 {pl : Sem Bool} {ok : OkD W} (U : Sub (cn X) W) (F : ClF X.K C fs) (M : Mth X.prog X.w X.K X.mg X.base CX0 C m k ps (spD (cn X) W n ok)) (hr : Room k X.A) (ho : DE W B X o to)
    (ht : eval (.Call (.Attribute o m apos) [] [] pos) X.env = (do
      let ov ← eval o X.env
      standAt apos.atName
      let (f, first) ← holding [ov] (getMethod ov m pl)
      callWith pos f first (backTo pos (starEach [] X.env)) (backToKw pos (keywordEach [] X.env))) := by rfl) : DE W B X (.Call (.Attribute o m apos) [] [] pos) (dMeth C U m n ok to dNil) := by
  obtain ⟨f, fd, hm, G, b⟩ := M.ex
  refine ⟨pe_imp (pe_meth0 (pl := pl) ho.run F.cls hm G hr b .nil pass0 ht) fun σ H Q ⟨Hs, ρ, s, R, S, h1, kk⟩ => ?_⟩
  refine ⟨Hs, ρ, s, _, S, h1, fun d s1 Hs1 H1 v hR g r => ?_⟩
  obtain ⟨a, gs, rfl, hg, hn, hl, hok⟩ := hR
  have ev : v = .ref a := by cases r; rfl
  subst ev
  obtain ⟨_, u, hu, cr⟩ := U.rel g.rel a _ hg
  cases cr with
  | ins rp => exact ⟨a, _, _, rfl, hu, rp.lookN hn, Hs1, s1, [.raw (.ref a)], _, g.rel, g.sub, .cons (.raw _) .nil, hl, hok, fun d s3 Hs3 H3 w hd g3 rw' => kk d s3 Hs3 H3 w hd (g.trans g3) rw'⟩
/-- a class's promise: __init__ at the new instance -/
structure Mkr (P : Program) (w : World) (K : PySem.W.Frag) (mg : Str → Option Value) (base : Heap) (x : Str) (C : Addr) (k : Nat) (ps : List Str) (sp : Sp) : Prop where
  ex : ∃ f fd, Mk K C f ∧ FnOk P w K mg base CX0 k f fd ps sp ∧ mg x = some (.ref C) ∧ Binds K fd ps []
theorem Mkr.imp {P : Program} {w : World} {K : PySem.W.Frag} {mg : Str → Option Value} {base : Heap} {C : Addr} {k : Nat} {ps : List Str} {sp sp' : Sp} (M : Mkr P w K mg base x C k ps sp) (h : ∀ vs H Q E, sp' vs H Q E → sp vs H Q E) : Mkr P w K mg base x C k ps sp' := by
  obtain ⟨f, fd, a, F, b⟩ := M.ex
  exact ⟨f, fd, a, F.imp h, b⟩
/-- C(..) -/
def dMake (C : Addr) {c : Cn} (U : Sub c W) (n : Nat) (ok : OkD W) (ta : TDA W) : TD W := fun ρ s Q => ta ρ s fun ds s1 => ∀ a, U.get s1 a = none → (D.raw (.ref a) :: ds).length = n ∧ ok (.raw (.ref a) :: ds) (U.put s1 (updS (U.get s1) a (.ins C []))) fun d s2 => d = .non ∧ Q (.raw (.ref a)) s2
theorem make_go {c : Cn} {s : W.S} {Hs H : Hp} {U : Sub c W} {a dx : Addr} (r : W.rel s Hs H) (hs : Same Hs H) (ha : H a = none) (hdx : H dx = none) (ne : dx ≠ a) : Go W s Hs H (U.put s (updS (U.get s) a (.ins C []))) Hs (upd (upd H dx (.own a)) a (.ins C dx [])) := by
  have g1 : Go (Wc c) (U.get s) Hs H (U.get s) Hs (upd H dx (.own a)) := (Lay.mut hs hdx).go (U.rel r)
  have h2 : upd H dx (.own a) a = none := by rw [upd_ne (Ne.symm ne)]; exact ha
  exact U.step r (g1.trans (wc_new g1.rel g1.sub h2 (.ins .nil)))
theorem de_make {ok : OkD W} (U : Sub (cn X) W) (M : Mkr X.prog X.w X.K X.mg X.base x C k ps (spD (cn X) W n ok)) (hr : Room (k + 1) X.A) (hg : Gl X x) (ha : DA W B X (e :: es) ta) (hdb : (x == ("__debug__" : Str)) = false := by decide)
    (he : starEach (e :: es) X.env = (false, eval e X.env) :: starEach es X.env := by rfl) (hpl : (backTo pos (starEach es X.env)).any (·.1) = false := by rfl) : DE W B X (.Call (.Name x p') (e :: es) [] pos) (dMake C U n ok ta) := by
  obtain ⟨f, fd, mk, G, mgx, b⟩ := M.ex
  refine ⟨pe_imp (pe_make mk G hr hg mgx b .nil pass0 ha.run hdb he hpl) fun σ H Q ⟨Hs, ρ, s, R, S, h1, kk⟩ => ?_⟩
  refine ⟨Hs, ρ, s, _, S, h1, fun ds s1 Hs1 H1 vs hR g rs a dx ha hdx ne => ?_⟩
  obtain ⟨hl, hok⟩ := hR a (wc_free (U.rel g.rel) ha)
  rw [List.append_nil]
  have g2 := make_go (C := C) (U := U) g.rel g.sub ha hdx ne
  exact ⟨Hs1, _, .raw (.ref a) :: ds, _, g2.rel, g2.sub, .cons (.raw _) rs, hl, hok, fun d s3 Hs3 H3 w hd g3 rw' => by
    obtain ⟨rfl, hd⟩ := hd
    refine ⟨by cases rw'; rfl, kk _ s3 Hs3 H3 _ hd (g.trans (g2.trans g3)) (.raw _)⟩⟩
theorem de_make0 {ok : OkD W} (U : Sub (cn X) W) (M : Mkr X.prog X.w X.K X.mg X.base x C k ps (spD (cn X) W n ok)) (hr : Room (k + 1) X.A) (hg : Gl X x) (hdb : (x == ("__debug__" : Str)) = false := by decide) : DE W B X (.Call (.Name x p') [] [] pos) (dMake C U n ok dNil) := by
  obtain ⟨f, fd, mk, G, mgx, b⟩ := M.ex
  refine ⟨pe_imp (pe_make0 mk G hr hg mgx b .nil pass0 hdb) fun σ H Q ⟨Hs, ρ, s, R, S, h1, kk⟩ => ?_⟩
  intro a dx ha hdx ne
  obtain ⟨hl, hok⟩ := h1 a (wc_free (U.rel S.rel) ha)
  have g2 := make_go (C := C) (U := U) S.rel S.sub ha hdx ne
  exact ⟨Hs, _, [.raw (.ref a)], _, g2.rel, g2.sub, .cons (.raw _) .nil, hl, hok, fun d s3 Hs3 H3 w hd g3 rw' => by
    obtain ⟨rfl, hd⟩ := hd
    refine ⟨by cases rw'; rfl, kk _ s3 Hs3 H3 _ hd (g2.trans g3) (.raw _)⟩⟩
end
end Dv

set_option Elab.async false
set_option linter.all false
set_option maxRecDepth 100000
/-! Lists and dicts as cells. -/
namespace Dv
open PySem L2 PyProof.Rows
section
variable {W : Wld} {B : Bs W} {X : Cx} {a b e o value : Expr} {es : List Expr} {te ta tk tv tx to : TD W} {pos pos' tpos p' apos cpos : Pos} {U : Sub (cn X) W}
theorem Rp.rawE {c : Cn} {H : Hp} {v w : V} (h : Rp c H v (.raw w)) : v = w := by
  cases h
  rfl
/-- {} -/
def dNewDc {c : Cn} (U : Sub c W) : TD W := fun _ s Q => ∀ a, U.get s a = none → Q (.raw (.ref a)) (U.put s (updS (U.get s) a (.dct [])))
theorem de_newDc (U : Sub (cn X) W) : DE W B X (.Dict [] [] pos) (dNewDc U) := by
  refine ⟨pe_imp pe_dnewK fun σ H Q ⟨Hs, ρ, s, R, S, h1, kk⟩ => ?_⟩
  intro p hp
  exact kk _ _ _ _ _ (h1 p (wc_free (U.rel S.rel) hp)) (U.step S.rel (wc_new (U.rel S.rel) S.sub hp (.dct (Nat.zero_le _) .nil))) (.raw _)
/-- [..] as a list that changes -/
def dNewLc {c : Cn} (U : Sub c W) (t : TDA W) : TD W := fun ρ s Q => t ρ s fun xs s1 => xs.length ≤ sizeLine ∧ ∀ a, U.get s1 a = none → Q (.raw (.ref a)) (U.put s1 (updS (U.get s1) a (.lst xs)))
theorem de_newLc {t : TDA W} (U : Sub (cn X) W) (h : DA W B X es t) : DE W B X (.List es pos) (dNewLc U t) := by
  refine ⟨pe_imp (pe_lst h.run) fun σ H Q ⟨Hs, ρ, s, R, S, h1, kk⟩ => ?_⟩
  refine ⟨Hs, ρ, s, _, S, h1, fun xs s1 Hs1 H1 vs hR g rs => ?_⟩
  obtain ⟨hz, hR⟩ := hR
  refine ⟨by rw [rs.length]; exact hz, fun p hp => ?_⟩
  exact kk _ _ _ _ _ (hR p (wc_free (U.rel g.rel) hp)) (g.trans (U.step g.rel (wc_new (U.rel g.rel) g.sub hp (.lst hz rs)))) (.raw _)
/-- x.m(e, ..), x a list that changes -/
def dBmC {c : Cn} (U : Sub c W) (p : List D → List D → (D → List D → Prop) → Prop) (to : TD W) (t : TDA W) : TD W := fun ρ s Q => to ρ s fun d s1 => ∃ a, d = .raw (.ref a) ∧ (∃ ys, U.get s1 a = some (.lst ys)) ∧ t ρ s1 fun ds s2 => ∃ xs, U.get s2 a = some (.lst xs) ∧ (xs.length ≤ sizeLine → p xs ds fun d xs' => Q d (U.put s2 (updS (U.get s2) a (.lst xs'))))
theorem de_bmC {name : Str} {id : String} {t : TDA W} {p : List D → List D → (D → List D → Prop) → Prop} (U : Sub (cn X) W) (slot : PySem.Slot "list" name id) (hty : typeOf (.builtin id) = pure (.type "method_descriptor")) (hm : OwnM X id p) (ho : DE W B X o to) (ha : DA W B X (e :: es) t)
    (hbase : attributeBase o name X.env (eval o X.env) = eval o X.env := by rfl)
    (hfew : ((backTo cpos (starEach (e :: es) X.env)).all (fun x => !x.1) && (backToKw cpos (keywordEach [] X.env)).all (fun x => x.1.isSome)
      && decide ((e :: es).length + ([] : List Keyword).length + (if ([] : List Keyword).isEmpty then 0 else 1) < 30)) = true := by rfl)
    (hline : (apos.endLine == cpos.line) = true := by rfl) (hs : starEach (e :: es) X.env = (false, eval e X.env) :: starEach es X.env := by rfl) (hplain : (backTo cpos (starEach es X.env)).any (·.1) = false := by rfl) :
    DE W B X (.Call (.Attribute o name apos) (e :: es) [] cpos) (dBmC U p to t) := by
  obtain ⟨r, hr, l⟩ := hm
  refine ⟨pe_imp (pe_bm PySem.F.plainAttrs_list slot hty hr ho.run ha.run hbase hfew hline hs hplain) fun σ H Q ⟨Hs, ρ, s, R, S, h1, kk⟩ => ?_⟩
  refine ⟨Hs, ρ, s, _, S, h1, fun d s1 Hs1 H1 v hR g rv => ?_⟩
  obtain ⟨q, rfl, ⟨ys, hy⟩, hR⟩ := hR
  have := rv.rawE
  subst this
  obtain ⟨_, u, hu, cr⟩ := U.rel g.rel q _ hy
  cases cr with
  | lst z ra =>
    refine ⟨.inl ⟨rfl, _, SqL.of hu⟩, Hs1, ρ, s1, _, S.step g, hR, fun ds s2 Hs2 H2 as hR2 g2 rs => ?_⟩
    obtain ⟨xs, hx, hR2⟩ := hR2
    obtain ⟨n2, u2, hu2, cr2⟩ := U.rel g2.rel q _ hx
    cases cr2 with
    | lst z2 rb =>
      refine l Hs2 H2 q _ xs as ds _ _ hu2 rb rs g2.sub n2 (hR2 z2) fun d xs' vs' v hd rx rv hz => ?_
      exact kk d _ Hs2 _ v hd (g.trans (g2.trans (U.step g2.rel (wc_upd (U.rel g2.rel) g2.sub hx (.lst hz rx))))) rv
/-- x.pop(0) -/
theorem ow_pop0 : OwnM X "list.pop" (fun xs ds R => ∃ x r, ds = [.int 0] ∧ xs = x :: r ∧ r.length ≤ sizeLine ∧ R x r) := by
  refine ⟨_, mt_popAt, fun Hs H q vs xs as ds R Q hq ra rs _ _ h k => ?_⟩
  obtain ⟨x, r, rfl, rfl, hz, hR⟩ := h
  cases ra with
  | @cons v vs' _ _ r1 r2 =>
    cases rs with
    | cons r3 rs =>
      cases rs
      have := r3.intE
      subst this
      refine ⟨q, v :: vs', 0, 0, v, rfl, rfl, hq, by decide, by decide, ?_, rfl, k x r vs' v hR r2 r1 hz⟩
      simp [seqIndex?]
/-- a <op> x, x a list that changes; the answer is a leaf -/
def dOpC {c : Cn} (U : Sub c W) (p : P2) (ta tb : TD W) : TD W := fun ρ s Q => ta ρ s fun x s1 => tb ρ s1 fun d s2 => ∃ a xs, d = .raw (.ref a) ∧ U.get s2 a = some (.lst xs) ∧ p x (.lst xs) fun r => leafD r = true ∧ Q r s2
theorem lift_opC {r : R2} {p : P2} {tb : TD W} (l : Lk2 X r p) {σ : L2.St} {H : Hp} {Q : VK} (h : liftE (cn X) W B (dOpC U p ta tb) σ H Q) : tOp r (liftE (cn X) W B ta) (liftE (cn X) W B tb) σ H Q := by
  obtain ⟨Hs, ρ, s, R, S, h1, kk⟩ := h
  refine ⟨Hs, ρ, s, _, S, h1, fun x s1 Hs1 H1 v hR g rv => ⟨Hs1, ρ, s1, _, S.step g, hR, fun d s2 Hs2 H2 w hR2 g2 rw' => ?_⟩⟩
  obtain ⟨q, xs, rfl, hx, hp⟩ := hR2
  have := rw'.rawE
  subst this
  obtain ⟨n2, u2, hu2, cr2⟩ := U.rel g2.rel q _ hx
  cases cr2 with
  | lst z ra =>
    exact l H2 H2 v (.ref q) x (.lst xs) _ _ (Same.refl _) ((rv.same g2.fz).same g2.sub) (.lst z (SqL.of hu2) (ra.same g2.sub)) hp fun d Hs3 H3 w ⟨hd, hq⟩ ly rw' => kk d s2 Hs2 H3 w hq (g.trans (g2.trans ((Lay.bare g2.sub ly).go g2.rel))) (rw'.leaf hd)
theorem de_cmpC {op : CmpOp} {p : P2} {tb : TD W} (U : Sub (cn X) W) (ho : OpD X (compareOp op) p) (ha : DE W B X a ta) (hb : DE W B X b tb) (hm : behindInMarks op b = false := by first | exact nomark _ | rfl) : DE W B X (.Compare a [op] [b] pos) (dOpC U p ta tb) := by
  obtain ⟨r, hr, l⟩ := ho
  exact ⟨pe_imp (pe_cmpR hr ha.run hb.run hm) fun σ H Q h => lift_opC l h⟩
theorem dt_cmpC {op : CmpOp} {p : P2} {tb : TD W} (U : Sub (cn X) W) (ho : OpD X (compareOp op) p) (ha : DE W B X a ta) (hb : DE W B X b tb) (hm : behindInMarks op b = false := by first | exact nomark _ | rfl) : DT W B X (.Compare a [op] [b] pos) (dB (dOpC U p ta tb)) := by
  obtain ⟨r, hr, l⟩ := ho
  refine ⟨pt_imp (pt_cmpR hr ha.run hb.run hm) fun σ H Q h => ?_⟩
  obtain ⟨Hs, ρ, s, R, S, h1, k⟩ := h
  refine lift_opC (U := U) l ⟨Hs, ρ, s, _, S, h1, fun d s1 Hs1 H1 v hR g r => ?_⟩
  obtain ⟨b, rfl, hq⟩ := hR
  exact ⟨b, r.blE, k b s1 Hs1 H1 hq g⟩
/-- f(x), x a list that changes; the answer is a leaf -/
def dCallC {c : Cn} (U : Sub c W) (p : PL) (te : TD W) : TD W := fun ρ s Q => te ρ s fun d s1 => ∃ a xs, d = .raw (.ref a) ∧ U.get s1 a = some (.lst xs) ∧ p [.lst xs] fun r => leafD r = true ∧ Q r s1
theorem de_callC {x : Str} {id : String} {p : PL} (U : Sub (cn X) W) (hc : CallD X (.builtin id) p) (hg : Gl X x) (hm : X.mg x = none) (hv : bootBuiltins x = some (.builtin id)) (he : DE W B X e te) (hn : x ≠ "__name__" := by decide) (hdb : (x == ("__debug__" : Str)) = false := by decide)
    (hs : starEach [e] X.env = [(false, eval e X.env)] := by rfl) : DE W B X (.Call (.Name x p') [e] [] pos) (dCallC U p te) := by
  obtain ⟨r, hr, l⟩ := hc
  refine ⟨pe_imp (pe_callB hr hg hm hv (pa_cons he.run pa_nil hs) hn hdb hs) fun σ H Q ⟨Hs, ρ, s, R, S, h1, kk⟩ => ?_⟩
  refine ⟨Hs, ρ, s, _, S, h1, fun d s1 Hs1 H1 v hR g rv => ?_⟩
  obtain ⟨q, xs, rfl, hx, hp⟩ := hR
  have := rv.rawE
  subst this
  obtain ⟨n2, u2, hu2, cr2⟩ := U.rel g.rel q _ hx
  cases cr2 with
  | lst z ra => exact l H1 H1 [.ref q] [.lst xs] _ _ (Same.refl _) (.one (.lst z (SqL.of hu2) (ra.same g.sub))) hp fun d Hs3 H3 w ⟨hd, hq⟩ ly rw' => kk d s1 Hs1 H3 w hq (g.trans ((Lay.bare g.sub ly).go g.rel)) (rw'.leaf hd)
/-- list(x), tuple(x), x a list that changes -/
def dSeqC {c : Cn} (U : Sub c W) (mk : List D → D) (te : TD W) : TD W := fun ρ s Q => te ρ s fun d s1 => ∃ a xs, d = .raw (.ref a) ∧ U.get s1 a = some (.lst xs) ∧ Q (mk xs) s1
theorem de_listC (U : Sub (cn X) W) (hg : Gl X "list") (hm : X.mg "list" = none) (he : DE W B X e te) (hs : starEach [e] X.env = [(false, eval e X.env)] := by rfl) : DE W B X (.Call (.Name "list" p') [e] [] pos) (dSeqC U .lst te) := by
  refine ⟨pe_imp (pe_callTy call_list_of hg hm (by decide +kernel) (pa_cons he.run pa_nil hs) (by decide) (by decide) hs) fun σ H Q ⟨Hs, ρ, s, R, S, h1, kk⟩ => ?_⟩
  refine ⟨Hs, ρ, s, _, S, h1, fun d s1 Hs1 H1 v hR g rv => ?_⟩
  obtain ⟨q, xs, rfl, hx, hq⟩ := hR
  have := rv.rawE
  subst this
  obtain ⟨n2, u2, hu2, cr2⟩ := U.rel g.rel q _ hx
  cases cr2 with
  | @lst vs _ z ra => exact ⟨q, vs, rfl, .inl (SqL.of hu2), fun p hp => kk _ s1 _ _ _ hq (g.trans ((Lay.one g.sub hp).go g.rel)) (.lstN (g.sub.free hp) z ra)⟩
theorem de_tupleC (U : Sub (cn X) W) (hg : Gl X "tuple") (hm : X.mg "tuple" = none) (he : DE W B X e te) (hs : starEach [e] X.env = [(false, eval e X.env)] := by rfl) : DE W B X (.Call (.Name "tuple" p') [e] [] pos) (dSeqC U .tup te) := by
  refine ⟨pe_imp (pe_callTy call_tuple_of hg hm (by decide +kernel) (pa_cons he.run pa_nil hs) (by decide) (by decide) hs) fun σ H Q ⟨Hs, ρ, s, R, S, h1, kk⟩ => ?_⟩
  refine ⟨Hs, ρ, s, _, S, h1, fun d s1 Hs1 H1 v hR g rv => ?_⟩
  obtain ⟨q, xs, rfl, hx, hq⟩ := hR
  have := rv.rawE
  subst this
  obtain ⟨n2, u2, hu2, cr2⟩ := U.rel g.rel q _ hx
  cases cr2 with
  | @lst vs _ z ra => exact ⟨q, vs, rfl, .inl ⟨SqL.of hu2, fun p hp => kk _ s1 _ _ _ hq (g.trans ((Lay.one g.sub hp).go g.rel)) (.tupN (g.sub.free hp) z ra)⟩⟩
/-- x[i], x a list that changes -/
def dIxC {c : Cn} (U : Sub c W) (ta tb : TD W) : TD W := fun ρ s Q => ta ρ s fun d s1 => tb ρ s1 fun y s2 => ∃ a xs i v, d = .raw (.ref a) ∧ U.get s2 a = some (.lst xs) ∧ y = .int i ∧ atI xs i = some v ∧ Q v s2
theorem de_ixC {tb : TD W} (U : Sub (cn X) W) (ha : DE W B X a ta) (hb : DE W B X b tb) (hs : PlainIx b := by exact fun _ _ => rfl) : DE W B X (.Subscript a b pos) (dIxC U ta tb) := by
  refine ⟨pe_imp (pe_ix ix_list ha.run hb.run hs) fun σ H Q ⟨Hs, ρ, s, R, S, h1, kk⟩ => ?_⟩
  refine ⟨Hs, ρ, s, _, S, h1, fun d s1 Hs1 H1 v hR g rv => ⟨Hs1, ρ, s1, _, S.step g, hR, fun y s2 Hs2 H2 w hR2 g2 rw' => ?_⟩⟩
  obtain ⟨q, xs, i, x, rfl, hx, rfl, hv, hq⟩ := hR2
  have := rv.rawE
  subst this
  have := rw'.intE
  subst this
  obtain ⟨n2, u2, hu2, cr2⟩ := U.rel g2.rel q _ hx
  cases cr2 with
  | @lst vs _ z ra =>
    obtain ⟨j, w, e1, e2, e3⟩ := atI_len ra.length hv
    obtain ⟨w', e4, e5⟩ := ra.get e3
    rw [e2] at e4
    cases e4
    exact ⟨q, vs, i, w, rfl, rfl, SqL.of hu2, e1, kk x s2 Hs2 H2 w hq (g.trans g2) e5⟩
end
end Dv

set_option Elab.async false
set_option linter.all false
set_option maxRecDepth 100000
/-! Dicts as cells; items stored; slices. -/
namespace Dv
open PySem L2 PyProof.Rows
def kD : Key → D
  | .inl i => .int i
  | .inr x => .str x
theorem Rp.keyE {c : Cn} {H : Hp} {v : V} {k : Key} (h : Rp c H v (kD k)) : v = kV k := by
  cases k with
  | inl i => exact h.intE
  | inr x => exact h.strE
theorem Rp.key {c : Cn} {H : Hp} {k : Key} (hz : ∀ x, k = .inr x → x.length ≤ sizeLine) : Rp c H (kV k) (kD k) := by
  cases k with
  | inl i => exact .int i
  | inr x => exact .str (hz x rfl)
def dctOf : Cell → Option (List (Key × D))
  | .dct kvs => some kvs
  | .lck _ _ kvs => some kvs
  | _ => none
section
variable {W : Wld} {B : Bs W} {X : Cx} {a b e o i f value : Expr} {es : List Expr} {te ta tk tv tx to td : TD W} {pos pos' tpos p' apos cpos : Pos} {U : Sub (cn X) W}
theorem rd_dct {c : Cn} {s : Cs} {Hs H : Hp} {a : Addr} {u : Cell} {kvs : List (Key × D)} (r : (Wc c).rel s Hs H) (e : s a = some u) (h : dctOf u = some kvs) : ∃ vs, Rd H a (.dK vs) ∧ RpP c Hs vs kvs := by
  obtain ⟨_, o, ho, cr⟩ := r a u e
  cases cr with
  | dct z rp => cases h; exact ⟨_, .inl ho, rp⟩
  | lck z rp => cases h; exact ⟨_, .inr ⟨_, ho⟩, rp⟩
  | lst => cases h
  | ins => cases h
/-- d[k] -/
def dDGet {c : Cn} (U : Sub c W) (td tk : TD W) : TD W := fun ρ s Q => td ρ s fun d s1 => tk ρ s1 fun y s2 => ∃ a u kvs k v, d = .raw (.ref a) ∧ U.get s2 a = some u ∧ dctOf u = some kvs ∧ y = kD k ∧ valD kvs k = some v ∧ Q v s2
theorem de_dgetC (U : Sub (cn X) W) (hu : X.A.units + 1 < cLine) (ho : DE W B X o td) (hi : DE W B X i tk) (hs : NoSl i := by exact fun _ _ => rfl) : DE W B X (.Subscript o i pos) (dDGet U td tk) := by
  refine ⟨pe_imp (pe_dget hu ho.run hi.run hs) fun σ H Q ⟨Hs, ρ, s, R, S, h1, kk⟩ => ?_⟩
  refine ⟨Hs, ρ, s, _, S, h1, fun d s1 Hs1 H1 v hR g rv => ⟨Hs1, ρ, s1, _, S.step g, hR, fun y s2 Hs2 H2 w hR2 g2 rw' => ?_⟩⟩
  obtain ⟨q, u, kvs, k, x, rfl, hx, hd, rfl, hv, hq⟩ := hR2
  have := rv.rawE
  subst this
  have := rw'.keyE
  subst this
  obtain ⟨vs, rd, rp⟩ := rd_dct (U.rel g2.rel) hx hd
  obtain ⟨v', e1, e2⟩ := rp.val hv
  exact ⟨q, v', rfl, .inl ⟨vs, k, rd, rfl, e1.symm⟩, kk x s2 Hs2 H2 v' hq (g.trans g2) e2⟩
/-- d[k] = v -/
def dDPut {c : Cn} (U : Sub c W) (td tk tv : TD W) : TDS W := fun E ρ s => tv ρ s fun v s1 => td ρ s1 fun d s2 => tk ρ s2 fun y s3 => ∃ a kvs k, d = .raw (.ref a) ∧ U.get s3 a = some (.dct kvs) ∧ y = kD k ∧ kvs.length < sizeLine ∧ E.nx ρ (U.put s3 (updS (U.get s3) a (.dct (putD kvs k v))))
theorem ds_dputC (U : Sub (cn X) W) (hu : X.A.units + 1 < cLine) (ho : DE W B X o td) (hi : DE W B X i tk) (hv : DE W B X value tv) (hs : swapsWith value (some (.Subscript o i pos')) pos.line X.env = pure false := by rfl) : DS W B X (.Assign [.Subscript o i pos'] value pos) (dDPut U td tk tv) := by
  refine ⟨ps_imp (ps_dput hu ho.run hi.run hv.run hs) fun D σ H ⟨Hs, ρ, s, E, S, h1, kk⟩ => ?_⟩
  refine ⟨Hs, ρ, s, _, S, h1, fun v s1 Hs1 H1 w hR g rv => ⟨Hs1, ρ, s1, _, S.step g, hR, fun d s2 Hs2 H2 w2 hR2 g2 r2 => ⟨Hs2, ρ, s2, _, (S.step g).step g2, hR2, fun y s3 Hs3 H3 w3 hR3 g3 r3 => ?_⟩⟩⟩
  obtain ⟨q, kvs, k, rfl, hx, rfl, hz, hq⟩ := hR3
  have := r2.rawE
  subst this
  have := r3.keyE
  subst this
  obtain ⟨_, u, hu2, cr⟩ := U.rel g3.rel q _ hx
  cases cr with
  | dct z rp =>
    have rp2 := rp.put (k := k) ((rv.same g2.fz).same g3.fz)
    have g4 := U.step g3.rel (wc_upd (U.rel g3.rel) g3.sub hx (.dct (Nat.le_trans (putD_len kvs k v) hz) rp2))
    exact ⟨q, _, rfl, .inl ⟨_, k, hu2, rfl, by rw [rp.length]; exact hz, rfl⟩, kk.nx ρ _ _ _ _ hq (g.fz.trans (g2.fz.trans (g3.fz.trans g4.fz))) ((((S.step g).step g2).step g3).step g4)⟩
theorem dropD_len (kvs : List (Key × D)) (k : Key) : (dropD kvs k).length ≤ kvs.length := List.length_filter_le _ _
/-- del d[k] -/
def dDDel {c : Cn} (U : Sub c W) (td tk : TD W) : TDS W := fun E ρ s => td ρ s fun d s1 => tk ρ s1 fun y s2 => ∃ a kvs k, d = .raw (.ref a) ∧ U.get s2 a = some (.dct kvs) ∧ y = kD k ∧ (valD kvs k).isSome = true ∧ E.nx ρ (U.put s2 (updS (U.get s2) a (.dct (dropD kvs k))))
theorem ds_ddelC (U : Sub (cn X) W) (ho : DE W B X o td) (hi : DE W B X i tk) : DS W B X (.Delete [.Subscript o i tpos] pos) (dDDel U td tk) := by
  refine ⟨ps_imp (ps_ddel ho.run hi.run) fun D σ H ⟨Hs, ρ, s, E, S, h1, kk⟩ => ?_⟩
  refine ⟨Hs, ρ, s, _, S, h1, fun d s1 Hs1 H1 w hR g rv => ⟨Hs1, ρ, s1, _, S.step g, hR, fun y s2 Hs2 H2 w2 hR2 g2 r2 => ?_⟩⟩
  obtain ⟨q, kvs, k, rfl, hx, rfl, hz, hq⟩ := hR2
  have := rv.rawE
  subst this
  have := r2.keyE
  subst this
  obtain ⟨_, u, hu2, cr⟩ := U.rel g2.rel q _ hx
  cases cr with
  | dct z rp =>
    have g4 := U.step g2.rel (wc_upd (U.rel g2.rel) g2.sub hx (.dct (Nat.le_trans (dropD_len kvs k) z) (rp.drop (k := k))))
    exact ⟨q, _, k, rfl, hu2, rfl, by rw [rp.isSome]; exact hz, kk.nx ρ _ _ _ _ hq (g.fz.trans (g2.fz.trans g4.fz)) (((S.step g).step g2).step g4)⟩
/-- k in d, k not in d -/
def dDIn {c : Cn} (U : Sub c W) (neg : Bool) (tk td : TD W) : TD W := fun ρ s Q => tk ρ s fun y s1 => td ρ s1 fun d s2 => ∃ a u kvs k, d = .raw (.ref a) ∧ U.get s2 a = some u ∧ dctOf u = some kvs ∧ y = kD k ∧ Q (.bl (if neg then !(valD kvs k).isSome else (valD kvs k).isSome)) s2
theorem lift_din {neg : Bool} {σ : L2.St} {H : Hp} {Q : VK} (h : liftE (cn X) W B (dDIn U neg tk td) σ H Q) : if neg then tDNotIn (liftE (cn X) W B tk) (liftE (cn X) W B td) σ H Q else tDIn (liftE (cn X) W B tk) (liftE (cn X) W B td) σ H Q := by
  obtain ⟨Hs, ρ, s, R, S, h1, kk⟩ := h
  cases neg with
  | true =>
    refine ⟨Hs, ρ, s, _, S, h1, fun y s1 Hs1 H1 v hR g rv => ⟨Hs1, ρ, s1, _, S.step g, hR, fun d s2 Hs2 H2 w hR2 g2 rw' => ?_⟩⟩
    obtain ⟨q, u, kvs, k, rfl, hx, hd, rfl, hq⟩ := hR2
    have := rw'.rawE
    subst this
    have := rv.keyE
    subst this
    obtain ⟨vs, rd, rp⟩ := rd_dct (U.rel g2.rel) hx hd
    refine ⟨q, valV vs k, rfl, .inl ⟨vs, k, rd, rfl, rfl⟩, ?_⟩
    rw [rp.isSome]
    exact kk _ s2 Hs2 H2 _ hq (g.trans g2) (.bl _)
  | false =>
    refine ⟨Hs, ρ, s, _, S, h1, fun y s1 Hs1 H1 v hR g rv => ⟨Hs1, ρ, s1, _, S.step g, hR, fun d s2 Hs2 H2 w hR2 g2 rw' => ?_⟩⟩
    obtain ⟨q, u, kvs, k, rfl, hx, hd, rfl, hq⟩ := hR2
    have := rw'.rawE
    subst this
    have := rv.keyE
    subst this
    obtain ⟨vs, rd, rp⟩ := rd_dct (U.rel g2.rel) hx hd
    refine ⟨q, valV vs k, rfl, .inl ⟨vs, k, rd, rfl, rfl⟩, ?_⟩
    rw [rp.isSome]
    exact kk _ s2 Hs2 H2 _ hq (g.trans g2) (.bl _)
end
end Dv

set_option Elab.async false
set_option linter.all false
set_option maxRecDepth 100000
/-! Dicts as cells, on. -/
namespace Dv
open PySem L2 PyProof.Rows
section
variable {W : Wld} {B : Bs W} {X : Cx} {a b e o i f value : Expr} {es : List Expr} {te ta tk tv tx to td : TD W} {pos pos' tpos p' apos cpos : Pos} {U : Sub (cn X) W}
theorem de_dinC (U : Sub (cn X) W) (hu : X.A.units + 1 < cLine) (hi : DE W B X i tk) (ho : DE W B X o td) (h1 : behindInMarks .In o = false := by first | exact nobehind _ (by decide) (by decide) | rfl) : DE W B X (.Compare i [.In] [o] pos) (dDIn U false tk td) :=
  ⟨pe_imp (pe_cmp (pc_din hu hi.run ho.run) h1) fun σ H Q h => lift_din (neg := false) h⟩
theorem de_dninC (U : Sub (cn X) W) (hu : X.A.units + 1 < cLine) (hi : DE W B X i tk) (ho : DE W B X o td) (h1 : behindInMarks .NotIn o = false := by first | exact nobehind _ (by decide) (by decide) | rfl) : DE W B X (.Compare i [.NotIn] [o] pos) (dDIn U true tk td) :=
  ⟨pe_imp (pe_cmp (pc_dnotin hu hi.run ho.run) h1) fun σ H Q h => lift_din (neg := true) h⟩
theorem dt_dinC (U : Sub (cn X) W) (hu : X.A.units + 1 < cLine) (hi : DE W B X i tk) (ho : DE W B X o td) (h1 : behindInMarks .In o = false := by first | exact nobehind _ (by decide) (by decide) | rfl) : DT W B X (.Compare i [.In] [o] pos) (dB (dDIn U false tk td)) :=
  ⟨pt_imp (pt_cmp (pc_din hu hi.run ho.run) h1) fun σ H Q ⟨Hs, ρ, s, R, S, h1, k⟩ => lift_din (neg := false) (U := U) ⟨Hs, ρ, s, _, S, h1, fun d s1 Hs1 H1 v hR g r => by
    obtain ⟨b, rfl, hq⟩ := hR
    exact ⟨b, r.blE, k b s1 Hs1 H1 hq g⟩⟩⟩
theorem dt_dninC (U : Sub (cn X) W) (hu : X.A.units + 1 < cLine) (hi : DE W B X i tk) (ho : DE W B X o td) (h1 : behindInMarks .NotIn o = false := by first | exact nobehind _ (by decide) (by decide) | rfl) : DT W B X (.Compare i [.NotIn] [o] pos) (dB (dDIn U true tk td)) :=
  ⟨pt_imp (pt_cmp (pc_dnotin hu hi.run ho.run) h1) fun σ H Q ⟨Hs, ρ, s, R, S, h1, k⟩ => lift_din (neg := true) (U := U) ⟨Hs, ρ, s, _, S, h1, fun d s1 Hs1 H1 v hR g r => by
    obtain ⟨b, rfl, hq⟩ := hR
    exact ⟨b, r.blE, k b s1 Hs1 H1 hq g⟩⟩⟩
/-- d.get(k, x) -/
def dDGet2 {c : Cn} (U : Sub c W) (td tk tx : TD W) : TD W := fun ρ s Q => td ρ s fun d s1 => ∃ a u0 ks0, d = .raw (.ref a) ∧ U.get s1 a = some u0 ∧ dctOf u0 = some ks0 ∧ tk ρ s1 fun y s2 => tx ρ s2 fun z s3 => ∃ u kvs k, U.get s3 a = some u ∧ dctOf u = some kvs ∧ y = kD k ∧ Q ((valD kvs k).getD z) s3
theorem de_dget2C (U : Sub (cn X) W) (hu : X.A.units + 1 < cLine) (ho : DE W B X o td) (he : DE W B X e tk) (hf : DE W B X f tx) (m : M2 X o "get" apos e f cpos := by exact ⟨rfl, rfl, rfl, rfl⟩) : DE W B X (.Call (.Attribute o "get" apos) [e, f] [] cpos) (dDGet2 U td tk tx) := by
  refine ⟨pe_imp (pe_dget2 hu ho.run he.run hf.run m) fun σ H Q ⟨Hs, ρ, s, R, S, h1, kk⟩ => ?_⟩
  refine ⟨Hs, ρ, s, _, S, h1, fun d s1 Hs1 H1 v hR g rv => ?_⟩
  obtain ⟨q, u0, ks0, rfl, hx0, hd0, hR⟩ := hR
  have := rv.rawE
  subst this
  obtain ⟨vs0, rd0, _⟩ := rd_dct (U.rel g.rel) hx0 hd0
  refine ⟨q, rfl, .inl ⟨vs0, rd0⟩, Hs1, ρ, s1, _, S.step g, hR, fun y s2 Hs2 H2 w hR2 g2 r2 => ⟨Hs2, ρ, s2, _, (S.step g).step g2, hR2, fun z s3 Hs3 H3 w3 hR3 g3 r3 => ?_⟩⟩
  obtain ⟨u, kvs, k, hx, hd, rfl, hq⟩ := hR3
  have := r2.keyE
  subst this
  obtain ⟨vs, rd, rp⟩ := rd_dct (U.rel g3.rel) hx hd
  refine ⟨valV vs k, .inl ⟨vs, k, rd, rfl, rfl⟩, ?_⟩
  refine kk _ s3 Hs3 H3 _ hq (g.trans (g2.trans g3)) ?_
  cases e : valD kvs k with
  | none => rw [rp.valN e]; exact r3
  | some d =>
    obtain ⟨v', e1, e2⟩ := rp.val e
    rw [e1]
    exact e2
/-- d.pop(k, x) -/
def dDPop2 {c : Cn} (U : Sub c W) (td tk tx : TD W) : TD W := fun ρ s Q => td ρ s fun d s1 => ∃ a ks0, d = .raw (.ref a) ∧ U.get s1 a = some (.dct ks0) ∧ tk ρ s1 fun y s2 => tx ρ s2 fun z s3 => ∃ kvs k, U.get s3 a = some (.dct kvs) ∧ y = kD k ∧
  (∀ v, valD kvs k = some v → Q v (U.put s3 (updS (U.get s3) a (.dct (dropD kvs k))))) ∧ (valD kvs k = none → Q z s3)
theorem de_dpop2C (U : Sub (cn X) W) (ho : DE W B X o td) (he : DE W B X e tk) (hf : DE W B X f tx) (m : M2 X o "pop" apos e f cpos := by exact ⟨rfl, rfl, rfl, rfl⟩) : DE W B X (.Call (.Attribute o "pop" apos) [e, f] [] cpos) (dDPop2 U td tk tx) := by
  refine ⟨pe_imp (pe_dpop2 ho.run he.run hf.run m) fun σ H Q ⟨Hs, ρ, s, R, S, h1, kk⟩ => ?_⟩
  refine ⟨Hs, ρ, s, _, S, h1, fun d s1 Hs1 H1 v hR g rv => ?_⟩
  obtain ⟨q, ks0, rfl, hx0, hR⟩ := hR
  have := rv.rawE
  subst this
  obtain ⟨vs0, rd0, _⟩ := rd_dct (U.rel g.rel) hx0 rfl
  refine ⟨q, rfl, .inl ⟨vs0, rd0⟩, Hs1, ρ, s1, _, S.step g, hR, fun y s2 Hs2 H2 w hR2 g2 r2 => ⟨Hs2, ρ, s2, _, (S.step g).step g2, hR2, fun z s3 Hs3 H3 w3 hR3 g3 r3 => ?_⟩⟩
  obtain ⟨kvs, k, hx, rfl, hq1, hq2⟩ := hR3
  have := r2.keyE
  subst this
  obtain ⟨_, u, hu2, cr⟩ := U.rel g3.rel q _ hx
  cases cr with
  | @dct vs _ z' rp =>
    refine ⟨vs, k, hu2, rfl, fun v' e => ?_, fun e => ?_⟩
    · cases e2 : valD kvs k with
      | none => rw [rp.valN e2] at e; cases e
      | some d =>
        obtain ⟨v2, e3, e4⟩ := rp.val e2
        rw [e] at e3
        cases e3
        have g4 := U.step g3.rel (wc_upd (U.rel g3.rel) g3.sub hx (.dct (Nat.le_trans (dropD_len kvs k) z') (rp.drop (k := k))))
        exact kk d _ Hs3 _ v' (hq1 d e2) (g.trans (g2.trans (g3.trans g4))) e4
    · have e2 : valD kvs k = none := by
        have := rp.isSome (k := k)
        rw [e] at this
        cases h : valD kvs k with
        | none => rfl
        | some d => rw [h] at this; cases this
      exact kk z s3 Hs3 H3 _ (hq2 e2) (g.trans (g2.trans g3)) r3
/-- len(d) -/
def dDLen {c : Cn} (U : Sub c W) (te : TD W) : TD W := fun ρ s Q => te ρ s fun d s1 => ∃ a kvs, d = .raw (.ref a) ∧ U.get s1 a = some (.dct kvs) ∧ Q (.int (kvs.length : Nat)) s1
theorem de_lenDC (U : Sub (cn X) W) (hg : Gl X "len") (hm : X.mg "len" = none) (he : DE W B X e te) (hs : starEach [e] X.env = [(false, eval e X.env)] := by rfl) : DE W B X (.Call (.Name "len" p') [e] [] pos) (dDLen U te) := by
  refine ⟨pe_imp (pe_callB call_lenD hg hm PySem.boot_len (pa_cons he.run pa_nil hs) (by decide) (by decide) hs) fun σ H Q ⟨Hs, ρ, s, R, S, h1, kk⟩ => ?_⟩
  refine ⟨Hs, ρ, s, _, S, h1, fun d s1 Hs1 H1 v hR g rv => ?_⟩
  obtain ⟨q, kvs, rfl, hx, hq⟩ := hR
  have := rv.rawE
  subst this
  obtain ⟨_, u, hu2, cr⟩ := U.rel g.rel q _ hx
  cases cr with
  | @dct vs _ z rp => exact ⟨q, vs, rfl, hu2, kk _ s1 Hs1 H1 _ hq g (by rw [rp.length]; exact .int _)⟩
/-- sorted(d), the keys ints -/
def dDSort {c : Cn} (U : Sub c W) (te : TD W) : TD W := fun ρ s Q => te ρ s fun d s1 => ∃ a kvs ks, d = .raw (.ref a) ∧ U.get s1 a = some (.dct kvs) ∧ kvs.map (·.1) = ks.map Sum.inl ∧ ks.length < 64 ∧ ∀ ys : List Int, ys.Perm ks → ys.Pairwise (· ≤ ·) → Q (.lst (ys.map .int)) s1
theorem rpa_intsR {c : Cn} {H : Hp} : ∀ ns : List Int, RpA c H (ns.map V.int) (ns.map D.int)
  | [] => .nil
  | n :: ns => .cons (.int n) (rpa_intsR ns)
theorem de_sortedDC (U : Sub (cn X) W) (hc : X.calm = true) (hg : Gl X "sorted") (hm : X.mg "sorted" = none) (he : DE W B X e te) (hs : starEach [e] X.env = [(false, eval e X.env)] := by rfl) : DE W B X (.Call (.Name "sorted" p') [e] [] pos) (dDSort U te) := by
  refine ⟨pe_imp (pe_callB (call_sortedDI hc) hg hm (by decide +kernel) (pa_cons he.run pa_nil hs) (by decide) (by decide) hs) fun σ H Q ⟨Hs, ρ, s, R, S, h1, kk⟩ => ?_⟩
  refine ⟨Hs, ρ, s, _, S, h1, fun d s1 Hs1 H1 v hR g rv => ?_⟩
  obtain ⟨q, kvs, ks, rfl, hx, hks, hl, hq⟩ := hR
  have := rv.rawE
  subst this
  obtain ⟨_, u, hu2, cr⟩ := U.rel g.rel q _ hx
  cases cr with
  | @dct vs _ z rp =>
    refine ⟨q, vs, ks, rfl, .inl hu2, by rw [rp.keys]; exact hks, hl, fun ys p hp1 hp2 hp => ?_⟩
    exact kk _ s1 _ _ _ (hq ys hp1 hp2) (g.trans ((Lay.one g.sub hp).go g.rel)) (.lstN (g.sub.free hp) (by rw [List.length_map, hp1.length_eq, sizeLine_eq]; omega) (rpa_intsR ys))
/-- d == {} -/
theorem op_eqE (hu : X.A.units < cLine) : OpR X (compareOp .Eq) (fun x y H Q => ∃ a b ks, x = .ref a ∧ y = .ref b ∧ H a = some (.dK ks) ∧ H b = some (.dK []) ∧ Q (.bl ks.isEmpty) H) := by
  intro pins s σ H x y v u Q I rx ry h
  obtain ⟨a, b, ks, rfl, rfl, ea, eb, q⟩ := h
  obtain rfl : v = Value.ref a := rx
  obtain rfl : u = Value.ref b := ry
  obtain ⟨_, ya, va, ra, da⟩ := (show ObjOk X.prog X.w H s.heap a (.dK ks) from I.hok a _ ea)
  obtain ⟨_, yb, vb, rb, db⟩ := (show ObjOk X.prog X.w H s.heap b (.dK []) from I.hok b _ eb)
  have l1 := ra.length
  have l2 := rb.length
  cases ks with
  | nil => exact PySem.W.keq_eq (knd := mixKind X.prog X.w) (r := true) ya yb da db hu (fun _ => hits_all rb ra fun p hp => by cases hp) (fin_bl I q (by simp at l1 l2 ⊢; omega))
  | cons k ks => exact PySem.W.keq_eq (knd := mixKind X.prog X.w) (r := true) ya yb da db hu (fun z => by
      simp at l1 l2
      first | omega | (exfalso; omega) | trace_state) (fin_bl I q (by simp at l1 l2 ⊢; omega))
end
end Dv

set_option Elab.async false
set_option linter.all false
set_option maxRecDepth 100000
/-! d == {}, x[i] = v, slices, dict(pairs); locks. -/
namespace Dv
open PySem L2 PyProof.Rows
section
variable {W : Wld} {B : Bs W} {X : Cx} {a b e o i f value : Expr} {es : List Expr} {te ta tk tv tx to td : TD W} {pos pos' pos2 tpos p' p2 apos cpos : Pos} {U : Sub (cn X) W}
def dEqE {c : Cn} (U : Sub c W) (te : TD W) : TD W := fun ρ s Q => te ρ s fun d s1 => ∃ a kvs, d = .raw (.ref a) ∧ U.get s1 a = some (.dct kvs) ∧ Q (.bl kvs.isEmpty) s1
theorem lift_eqE {r : R2} {σ : L2.St} {H : Hp} {Q : VK} (hr : ∀ x y H Q, (∃ a b ks, x = .ref a ∧ y = .ref b ∧ H a = some (.dK ks) ∧ H b = some (.dK []) ∧ Q (.bl ks.isEmpty) H) → r x y H Q) (h : liftE (cn X) W B (dEqE U te) σ H Q) : tOp r (liftE (cn X) W B te) tDNewK σ H Q := by
  obtain ⟨Hs, ρ, s, R, S, h1, kk⟩ := h
  refine ⟨Hs, ρ, s, _, S, h1, fun d s1 Hs1 H1 v hR g rv => ?_⟩
  obtain ⟨q, kvs, rfl, hx, hq⟩ := hR
  have := rv.rawE
  subst this
  obtain ⟨_, u, hu2, cr⟩ := U.rel g.rel q _ hx
  cases cr with
  | @dct vs _ z rp =>
    intro p hp
    have ne : q ≠ p := fun z => by rw [z, hp] at hu2; cases hu2
    have e : vs.isEmpty = kvs.isEmpty := by
      have := rp.length
      cases vs <;> cases kvs <;> simp at this ⊢
    refine hr _ _ _ _ ⟨q, p, vs, rfl, rfl, by rw [upd_ne ne]; exact hu2, upd_same, ?_⟩
    exact kk _ s1 Hs1 _ _ hq (g.trans ((Lay.mut g.sub hp).go g.rel)) (by rw [e]; exact .bl _)
theorem de_eqEC (U : Sub (cn X) W) (hu : X.A.units < cLine) (he : DE W B X e te) : DE W B X (.Compare e [.Eq] [.Dict [] [] pos2] pos) (dEqE U te) :=
  ⟨pe_imp (pe_cmpR (op_eqE hu) he.run pe_dnewK (nomark _)) fun σ H Q h => lift_eqE (fun _ _ _ _ h => h) h⟩
theorem dt_eqEC (U : Sub (cn X) W) (hu : X.A.units < cLine) (he : DE W B X e te) : DT W B X (.Compare e [.Eq] [.Dict [] [] pos2] pos) (dB (dEqE U te)) := by
  refine ⟨pt_imp (pt_cmpR (op_eqE hu) he.run pe_dnewK (nomark _)) fun σ H Q h => ?_⟩
  obtain ⟨Hs, ρ, s, R, S, h1, k⟩ := h
  refine lift_eqE (U := U) (fun _ _ _ _ h => h) ⟨Hs, ρ, s, _, S, h1, fun d s1 Hs1 H1 v hR g r => ?_⟩
  obtain ⟨b, rfl, hq⟩ := hR
  exact ⟨b, r.blE, k b s1 Hs1 H1 hq g⟩
theorem RpA.setAt {c : Cn} {H : Hp} {v : V} {d : D} (r : Rp c H v d) : ∀ {vs : List V} {ds : List D} (j : Nat), RpA c H vs ds → RpA c H (vs.set j v) (ds.set j d)
  | _, _, _, .nil => .nil
  | _, _, 0, .cons h t => .cons r t
  | _, _, j + 1, .cons h t => .cons h (RpA.setAt r j t)
/-- x[i] = v, x a list that changes -/
def dSetIx {c : Cn} (U : Sub c W) (td tk tv : TD W) : TDS W := fun E ρ s => tv ρ s fun v s1 => td ρ s1 fun d s2 => tk ρ s2 fun y s3 => ∃ a xs k j, d = .raw (.ref a) ∧ U.get s3 a = some (.lst xs) ∧ y = .int k ∧ ixN xs.length k = some j ∧ E.nx ρ (U.put s3 (updS (U.get s3) a (.lst (xs.set j v))))
theorem ds_setixC (U : Sub (cn X) W) (ho : DE W B X o td) (hi : DE W B X i tk) (hv : DE W B X value tv) (hs : swapsWithSole [.Subscript o i pos'] value pos.line X.env = pure false := by rfl) (hw : swappedStores [.Subscript o i pos'] value X.env = pure none := by rfl)
    (h1 : (assignEach [.Subscript o i pos'] X.env).map (·.2) = [assign (.Subscript o i pos') X.env] := by rfl)
    (ha : ∀ v, assign (.Subscript o i pos') X.env v = (do
      let ov ← holding [v] (eval o X.env)
      let iv ← holding [v, ov] (eval i X.env)
      standAt pos'
      holding [v, ov, iv] (setItem ov iv v)
      release [v, ov, iv] []) := by intro _; rfl) : DS W B X (.Assign [.Subscript o i pos'] value pos) (dSetIx U td tk tv) := by
  refine ⟨ps_imp (ps_asg hv.run (pg_sub ho.run hi.run set_list ha) hs hw h1) fun D σ H ⟨Hs, ρ, s, E, S, h1, kk⟩ => ?_⟩
  refine ⟨Hs, ρ, s, _, S, h1, fun v s1 Hs1 H1 w hR g rv => ⟨Hs1, ρ, s1, _, S.step g, hR, fun d s2 Hs2 H2 w2 hR2 g2 r2 => ⟨Hs2, ρ, s2, _, (S.step g).step g2, hR2, fun y s3 Hs3 H3 w3 hR3 g3 r3 => ?_⟩⟩⟩
  obtain ⟨q, xs, k, j, rfl, hx, rfl, hj, hq⟩ := hR3
  have := r2.rawE
  subst this
  have := r3.intE
  subst this
  obtain ⟨_, u, hu2, cr⟩ := U.rel g3.rel q _ hx
  cases cr with
  | @lst vs _ z ra =>
    have g4 := U.step g3.rel (wc_upd (U.rel g3.rel) g3.sub hx (.lst (by rw [List.length_set]; exact z) (RpA.setAt ((rv.same g2.fz).same g3.fz) j ra)))
    exact ⟨q, vs, k, j, rfl, rfl, hu2, by rw [ra.length]; exact hj, kk.nx ρ _ _ _ _ hq (g.fz.trans (g2.fz.trans (g3.fz.trans g4.fz))) ((((S.step g).step g2).step g3).step g4)⟩
/-- x[lo:hi], x a list that changes -/
def dSlC {c : Cn} (U : Sub c W) (te : TD W) (tl th : TDO W) : TD W := fun ρ s Q => te ρ s fun d s1 => tl ρ s1 fun lo s2 => th ρ s2 fun hi s3 => ∃ a xs, d = .raw (.ref a) ∧ U.get s3 a = some (.lst xs) ∧ Q (.lst (cutD xs lo hi)) s3
theorem de_sliceC {lo hi : Option Expr} {tl th : TDO W} (U : Sub (cn X) W) (he : DE W B X e te) (hl : DO W B X lo tl) (hh : DO W B X hi th) : DE W B X (.Subscript e (.Slice lo hi none p2) pos) (dSlC U te tl th) := by
  refine ⟨pe_imp (pe_slice sl_list he.run hl.run hh.run) fun σ H Q ⟨Hs, ρ, s, R, S, h1, kk⟩ => ?_⟩
  refine ⟨Hs, ρ, s, _, S, h1, fun x s1 Hs1 H1 v hR g1 rv => ?_⟩
  refine ⟨Hs1, ρ, s1, _, S.step g1, hR, fun i s2 Hs2 H2 hR2 g2 => ?_⟩
  refine ⟨Hs2, ρ, s2, _, (S.step g1).step g2, hR2, fun j s3 Hs3 H3 hR3 g3 => ?_⟩
  obtain ⟨q, xs, rfl, hx, hq⟩ := hR3
  have := rv.rawE
  subst this
  obtain ⟨_, u, hu2, cr⟩ := U.rel g3.rel q _ hx
  cases cr with
  | @lst vs _ z ra =>
    exact ⟨q, vs, rfl, SqL.of hu2, fun p hp => kk _ s3 _ _ _ hq (g1.trans (g2.trans (g3.trans ((Lay.one g3.sub hp).go g3.rel)))) (.lstN (g3.sub.free hp) (Nat.le_trans (cutD_length xs i j) z) (ra.cut i j))⟩
/-- dict(pairs) as a dict that changes -/
def mergeD (kvs more : List (Key × D)) : List (Key × D) := more.foldl (fun acc kv => putD acc kv.1 kv.2) kvs
def keyPair (p : Key × D) : D := .tup [kD p.1, p.2]
theorem mergeD_len : ∀ (more kvs : List (Key × D)), (mergeD kvs more).length ≤ kvs.length + more.length
  | [], kvs => Nat.le_refl _
  | p :: more, kvs => by
    show (mergeD (putD kvs p.1 p.2) more).length ≤ _
    have := mergeD_len more (putD kvs p.1 p.2)
    have := putD_len kvs p.1 p.2
    rw [List.length_cons]
    omega
theorem RpP.merge {c : Cn} {H : Hp} {vs : List (Key × V)} {ds : List (Key × D)} (h : RpP c H vs ds) : ∀ {ws : List (Key × V)} {es : List (Key × D)}, RpP c H ws es → RpP c H (mergeK ws vs) (mergeD es ds) := by
  induction h with
  | nil => exact fun r => r
  | cons h t ih => exact fun r => ih (RpP.put h r)
theorem pairs_of {c : Cn} {H H' : Hp} (hs : Same H H') : ∀ {vs : List V} {ps : List (Key × D)}, RpA c H vs (ps.map keyPair) → ∃ (as : List Addr) (kvs : List (Key × V)), vs = as.map V.ref ∧ Paired (fun p kv => SqT c.K H' p [kV kv.1, kv.2]) as kvs ∧ RpP c H kvs ps
  | _, [], .nil => ⟨[], [], rfl, .nil, .nil⟩
  | _, p :: ps, .cons h t => by
    obtain ⟨as, kvs, rfl, h2, h3⟩ := pairs_of hs t
    cases h with
    | @tup a ws _ z hq ra =>
      cases ra with
      | cons r1 ra =>
        cases ra with
        | cons r2 ra =>
          cases ra
          have := r1.keyE
          subst this
          exact ⟨a :: as, (p.1, _) :: kvs, rfl, .cons (SqT_same hs hq) h2, .cons r2 h3⟩
def dDictP {c : Cn} (U : Sub c W) (te : TD W) : TD W := fun ρ s Q => te ρ s fun d s1 => ∃ ps : List (Key × D), d = .lst (ps.map keyPair) ∧ ∀ a, U.get s1 a = none → Q (.raw (.ref a)) (U.put s1 (updS (U.get s1) a (.dct (mergeD [] ps))))
theorem de_dictPC (U : Sub (cn X) W) (hc : X.calm = true) (hg : Gl X "dict") (hm : X.mg "dict" = none) (he : DE W B X e te) (hs : starEach [e] X.env = [(false, eval e X.env)] := by rfl) : DE W B X (.Call (.Name "dict" p') [e] [] pos) (dDictP U te) := by
  refine ⟨pe_imp (pe_callTy (call_dictP hc) hg hm (by decide +kernel) (pa_cons he.run pa_nil hs) (by decide) (by decide) hs) fun σ H Q ⟨Hs, ρ, s, R, S, h1, kk⟩ => ?_⟩
  refine ⟨Hs, ρ, s, _, S, h1, fun d s1 Hs1 H1 v hR g rv => ?_⟩
  obtain ⟨ps, rfl, hq⟩ := hR
  cases rv with
  | @lst a vs _ z hL ra =>
    obtain ⟨as, kvs, rfl, h2, h3⟩ := pairs_of g.sub ra
    refine ⟨a, as, kvs, rfl, g.sub.seq hL, h2, fun p hp => ?_⟩
    refine kk _ _ _ _ _ (hq p (wc_free (U.rel g.rel) hp)) (g.trans (U.step g.rel (wc_new (U.rel g.rel) g.sub hp (.dct ?_ (h3.merge .nil))))) (.raw _)
    have := mergeD_len ps []
    rw [List.length_map] at z
    simp at this
    omega
/-! ### a dict that is walked stands locked -/
def dLock {c : Cn} (U : Sub c W) (t : TD W) : TD W := fun ρ s Q => ∃ a kvs, U.get s a = some (.dct kvs) ∧ ∀ od vs, t ρ (U.put s (updS (U.get s) a (.lck od vs kvs))) fun d s' => U.get s' a = some (.lck od vs kvs) ∧ Q d (U.put s' (updS (U.get s') a (.dct kvs)))
theorem de_lockC {t : TD W} (U : Sub (cn X) W) (h : DE W B X e t) : DE W B X e (dLock U t) := by
  refine ⟨pe_imp (pe_lock h.run) fun σ H Q ⟨Hs, ρ, s, R, S, ⟨a, kvs, ha, h1⟩, kk⟩ => ?_⟩
  obtain ⟨n, u, hu, cr⟩ := U.rel S.rel a _ ha
  cases cr with
  | @dct vs _ z rp =>
    refine ⟨a, .dK vs, hu, trivial, fun od => ?_⟩
    have g := U.step S.rel (wc_upd (U.rel S.rel) S.sub ha (.lck (od := od) z rp))
    refine ⟨Hs, ρ, _, _, S.step g, h1 od vs, fun d s2 Hs2 H2 v hR g2 rv => ?_⟩
    obtain ⟨hl, hq⟩ := hR
    obtain ⟨n2, u2, hu2, cr2⟩ := U.rel g2.rel a _ hl
    cases cr2 with
    | lck z2 rp2 => exact ⟨hu2, kk d _ Hs2 _ v hq (g.trans (g2.trans (U.step g2.rel (wc_upd (U.rel g2.rel) g2.sub hl (.dct z2 rp2))))) rv⟩
end
end Dv

set_option Elab.async false
set_option linter.all false
set_option maxRecDepth 100000
/-! Walks over things that change: they stay as they are meanwhile. -/
namespace Dv
open PySem L2
/-- the iterator J walks the data xs while ok holds -/
structure WalkK (c : Cn) (W : Wld) (Hs0 : Hp) (J : It) (xs : List D) (ok : W.S → Prop) : Prop where
  go : ∀ i s Hs H, Same Hs0 Hs → Same Hs H → W.rel s Hs H → ok s → i < xs.length → J.go i H
  stop : ∀ s Hs H, Same Hs0 Hs → Same Hs H → W.rel s Hs H → ok s → J.stop xs.length H
  yld : ∀ i d s Hs H x H', Same Hs0 Hs → Same Hs H → W.rel s Hs H → ok s → xs[i]? = some d → J.yld i H x H' → ∃ Hs', Lay Hs H Hs' H' ∧ Rp c Hs' x d
theorem WalkD.k {c : Cn} {W : Wld} {Hs0 : Hp} {J : It} {xs : List D} (w : WalkD c Hs0 J xs) : WalkK c W Hs0 J xs (fun _ => True) :=
  ⟨fun i _ Hs H a b _ _ h => w.go i Hs H a b h, fun _ Hs H a b _ _ => w.stop Hs H a b, fun i d _ Hs H x H' a b _ _ e y => w.yld i d Hs H x H' a b e y⟩
abbrev TDK (W : Wld) := Env → W.S → (List D → (W.S → Prop) → W.S → Prop) → Prop
def liftK (c : Cn) (W : Wld) (B : Bs W) (t : TDK W) : TI := fun σ H R => ∃ Hs ρ s R', Stt c W B σ H ρ s Hs ∧ t ρ s R' ∧ ∀ xs ok s' Hs' H' J, R' xs ok s' → Go W s Hs H s' Hs' H' → WalkK c W Hs' J xs ok → R J H'
structure DIK (W : Wld) (B : Bs W) (X : Cx) (tg e : Expr) (t : TDK W) : Prop where
  run : PI X tg e (liftK (cn X) W B t)
section
variable {W : Wld} {B : Bs W} {X : Cx} {tg e : Expr} {te : TD W} {pos : Pos} {U : Sub (cn X) W}
/-- a value walked: data, or a list that changes -/
def kAny {c : Cn} (U : Sub c W) (te : TD W) : TDK W := fun ρ s Q => te ρ s fun d s1 => ∃ xs, (itemsD d = some xs ∧ (xs.length ≤ sizeLine → Q xs (fun _ => True) s1)) ∨ ∃ a, d = .raw (.ref a) ∧ U.get s1 a = some (.lst xs) ∧ (xs.length ≤ sizeLine → Q xs (fun s => U.get s a = some (.lst xs)) s1)
theorem walk_cell {U : Sub (cn X) W} {Hs0 : Hp} {a : Addr} {xs : List D} : WalkK (cn X) W Hs0 (Itl X.K a) xs (fun s => U.get s a = some (.lst xs)) where
  go := fun i s Hs H s1 s2 r k hi => by
    obtain ⟨_, o, ho, cr⟩ := U.rel r a _ k
    cases cr with
    | lst z ra =>
      obtain ⟨v, hv, _⟩ := ra.get (List.getElem?_eq_getElem hi)
      exact ⟨_, v, SqL.of ho, hv⟩
  stop := fun s Hs H s1 s2 r k => by
    obtain ⟨_, o, ho, cr⟩ := U.rel r a _ k
    cases cr with
    | lst z ra => exact ⟨_, SqL.of ho, by rw [ra.length]; exact Nat.le_refl _⟩
  yld := fun i d s Hs H x H' s1 s2 r k hd ⟨e, hy⟩ => by
    subst e
    obtain ⟨_, o, ho, cr⟩ := U.rel r a _ k
    cases cr with
    | lst z ra =>
      obtain ⟨v, hv, rv⟩ := ra.get hd
      have q := hy _ (SqL.of ho)
      rw [hv] at q
      cases q
      exact ⟨Hs, Lay.refl s2, rv⟩
theorem dik_any (U : Sub (cn X) W) (h : DE W B X e te) : DIK W B X tg e (kAny U te) := by
  refine ⟨⟨fun pins s σ H R I hw => ?_⟩⟩
  obtain ⟨Hs, ρ, st, R', S, h1, k⟩ := hw
  by_cases hcase : True
  · refine thn (h.run.run pins s σ H (fun v H' => ∃ d s' Hs', Go W st Hs H s' Hs' H' ∧ Rp (cn X) Hs' v d ∧ ∃ xs, (itemsD d = some xs ∧ (xs.length ≤ sizeLine → R' xs (fun _ => True) s')) ∨ ∃ a, d = .raw (.ref a) ∧ U.get s' a = some (.lst xs) ∧ (xs.length ≤ sizeLine → R' xs (fun s => U.get s a = some (.lst xs)) s')) I ⟨Hs, ρ, st, _, S, h1, fun d s' Hs' H' v hd g r => ⟨d, s', Hs', g, r, hd⟩⟩) fun u s1 ⟨v, H1, I1, rv, d, s', Hs', g, r, xs, hx⟩ => ?_
    rcases hx with ⟨e1, e2⟩ | ⟨a, rfl, ha, hq⟩
    · have k2 : ∀ J, xs.length ≤ sizeLine → WalkD (cn X) Hs' J xs → R J H1 := fun J hz w => k xs _ s' Hs' H1 J (e2 hz) g w.k
      cases r with
      | tup z hq ra =>
        cases e1
        cases rv
        obtain ⟨its, rv, p, hz⟩ := I1.tuple (SqT_same g.sub hq)
        refine wpAny_pyIter_tuple (show s1.heap.IsTuple _ its.toArray from p) ?_
        exact pi_one (tk := s1.toks) I1 _ (turn_tuple _ _) ⟨_, Heap.get?_push_size _ rfl, rfl, rfl⟩ (k2 _ z (.tup hq ra))
      | lst z hq ra =>
        cases e1
        cases rv
        obtain ⟨its, rv, p, hz⟩ := I1.list (g.sub.seq hq)
        refine wpAny_pyIter_list p.isList ?_
        exact pi_one (tk := s1.toks) I1 _ (turn_list _ _) ⟨_, Heap.get?_push_size _ rfl, rfl, rfl⟩ (k2 _ z (.list hq ra))
      | @str x z =>
        cases e1
        obtain ⟨tk, rfl⟩ := rv
        have q := k2 _ (by simpa [signsD, Str.length] using z) (.str x)
        cases ha : x.cps.all (· < 128)
        · exact wpAny_pyIter_wide ha (pi_one (tk := s1.toks) I1 _ (turn_str _ x tk "str_iterator" (.inr rfl)) ⟨_, Heap.get?_push_size _ rfl, rfl, rfl⟩ q)
        · exact wpAny_pyIter_ascii ha (pi_one (tk := s1.toks) I1 _ (turn_str _ x tk "str_ascii_iterator" (.inl rfl)) ⟨_, Heap.get?_push_size _ rfl, rfl, rfl⟩ q)
      | @dic a o es kvs hd fx re nd =>
        cases e1
        cases rv
        obtain ⟨ep, hdt⟩ := fx.dt
        have hd1 := g.sub _ _ hd
        have hm : s1.heap.DictRaw a es.toArray ep := ⟨o, Inv.dat I1 hd1, fx.ex, hdt⟩
        have hvk : ∀ e ∈ es, ∃ x, RelV x e.key := fun e he => by
          obtain ⟨i, hi⟩ := List.mem_iff_getElem?.mp he
          obtain ⟨_, _, v, _, _, q, _⟩ := re.keyAt hi
          exact ⟨v, q⟩
        refine wpAny_pyIter_dict_raw fx.ns hm (pi_one (tk := s1.toks) I1 _ (turn_kx _ hdt fx.ex hvk) ⟨_, Heap.get?_push_size _ rfl, rfl, ?_⟩ (k2 _ (by rw [List.length_map, ← re.length]; exact fx.sz) (.keys hd re)))
        simp
      | _ => cases e1
    · have := r.rawE
      subst this
      cases rv
      obtain ⟨_, o, ho, cr⟩ := U.rel g.rel a _ ha
      cases cr with
      | lst z ra =>
        obtain ⟨its, rv, p, hz⟩ := I1.list (SqL.of ho)
        refine wpAny_pyIter_list p.isList ?_
        exact pi_one (tk := s1.toks) I1 _ (turn_list _ _) ⟨_, Heap.get?_push_size _ rfl, rfl, rfl⟩ (k xs _ s' Hs' H1 _ (hq z) g walk_cell)
  · exact absurd trivial hcase
/-- the keys of a locked dict -/
def kKeys {c : Cn} (U : Sub c W) (te : TD W) : TDK W := fun ρ s Q => te ρ s fun d s1 => ∃ a od vs kvs, ∃ ks : List Int, d = .raw (.ref a) ∧ U.get s1 a = some (.lck od vs kvs) ∧ kvs.map (·.1) = ks.map Sum.inl ∧ (kvs.length ≤ sizeLine → Q (ks.map .int) (fun s => U.get s a = some (.lck od vs kvs)) s1)
theorem dik_keys (U : Sub (cn X) W) (h : DE W B X e te) : DIK W B X tg e (kKeys U te) := by
  refine ⟨pi_imp (pi_keys h.run) fun σ H R ⟨Hs, ρ, s, R', S, h1, k⟩ => ?_⟩
  refine ⟨Hs, ρ, s, _, S, h1, fun d s1 Hs1 H1 v hR g r => ?_⟩
  obtain ⟨a, od, vs, kvs, ks, rfl, ha, hks, hq⟩ := hR
  have hkl : kvs.length = ks.length := by simpa using congrArg List.length hks
  have := r.rawE
  subst this
  obtain ⟨_, o, ho, cr⟩ := U.rel g.rel a _ ha
  cases cr with
  | lck z rp =>
    refine ⟨a, od, rfl, .inl ⟨vs, ho, k _ _ s1 Hs1 H1 _ (hq z) g ?_⟩⟩
    have at_ : ∀ {s : W.S} {Hs H : Hp}, W.rel s Hs H → U.get s a = some (.lck od vs kvs) → H a = some (.frz od (.dK vs)) := fun r2 e => by
      obtain ⟨_, o2, ho2, cr2⟩ := U.rel r2 a _ e
      cases cr2
      exact ho2
    refine ⟨fun i s Hs H _ _ r2 e hi => ⟨at_ r2 e, by rw [rp.length, hkl]; simpa using hi⟩, fun s Hs H _ _ r2 e => ⟨at_ r2 e, by rw [rp.length, hkl]; simp⟩, fun i d s Hs H x H' _ s2 r2 e hd hy => ?_⟩
    obtain ⟨e2, kk, w, e3, e4⟩ := hy
    subst e2
    subst e4
    rw [List.getElem?_map] at hd
    cases e5 : ks[i]? with
    | none => rw [e5] at hd; cases hd
    | some p =>
      rw [e5] at hd
      cases hd
      have e6 : (vs.map (·.1))[i]? = (ks.map Sum.inl)[i]? := by rw [rp.keys, hks]
      rw [List.getElem?_map, List.getElem?_map, e3, e5] at e6
      cases e6
      exact ⟨Hs, Lay.refl s2, .int p⟩
end
section
variable {W : Wld} {B : Bs W} {X : Cx} {st : Stmt} {pos : Pos}
/-- a loop whose items stay: ok behind each turn -/
def forGoK (ok : W.S → Prop) (body : D → TDS W) (E : EndsD W) : List D → Env → W.S → Prop
  | [], ρ, s => E.nx ρ s
  | x :: xs, ρ, s => body x { nx := fun ρ s => ok s ∧ forGoK ok body E xs ρ s, rt := E.rt, bk := E.nx, ct := fun ρ s => ok s ∧ forGoK ok body E xs ρ s } ρ s
def dForK (ti : TDK W) (gt : TDG) (tb : TDS W) : TDS W := fun E ρ s => ti ρ s fun xs ok s1 => ok s1 ∧ forGoK ok (fun x E ρ s => gt x ρ fun ρ' => tb E ρ' s) E xs ρ s1
theorem ds_forK {tg iter : Expr} {body : List Stmt} {ti : TDK W} {is : List Nat} {gt : TDG} {tb : TDS W} (hp : PassesOwn (model X.prog X.w) X.A X.env X.xe) (hc : X.calm = true) (hi : DIK W B X tg iter ti) (hg : DG X tg is gt) (hb : DSs W B X body tb)
    (hs : ∀ x, foldedSetIterable iter X.env x = pure x := by intro _; rfl) : DS W B X (.For tg iter body [] pos) (dForK ti gt tb) := by
  obtain ⟨g, pg, l⟩ := hg
  refine ⟨ps_imp (ps_for hp hc hi.run pg hb.run hs) fun D σ H ⟨Hs, ρ, s, E, S, h1, k⟩ => ?_⟩
  refine ⟨Hs, ρ, s, _, S, h1, fun xs ok s1 Hs1 H1 J hR g1 wk => ?_⟩
  obtain ⟨hok, hR⟩ := hR
  refine ⟨fun i m σ H => m = xs.length - i ∧ i ≤ xs.length ∧ ∃ Hs' ρ' s', Same Hs1 Hs' ∧ Stt (cn X) W B σ H ρ' s' Hs' ∧ ok s' ∧ forGoK ok (fun x E ρ s => gt x ρ fun ρ' => tb E ρ' s) E (xs.drop i) ρ' s', ⟨_, rfl, Nat.zero_le _, Hs1, ρ, s1, Same.refl _, S.step g1, hok, hR⟩, ?_⟩
  rintro i m σ2 H2 ⟨rfl, hi, Hs2, ρ2, s2, e2, S2, hok2, hgo⟩
  by_cases hlt : i < xs.length
  · have hx : xs[i]? = some xs[i] := List.getElem?_eq_getElem hlt
    rw [List.drop_eq_getElem_cons hlt] at hgo
    refine .inr ⟨wk.go i s2 Hs2 H2 e2 S2.sub S2.rel hok2 hlt, fun σ H => i + 1 ≤ xs.length ∧ ∃ Hs' ρ' s', Same Hs1 Hs' ∧ Stt (cn X) W B σ H ρ' s' Hs' ∧ ok s' ∧ forGoK ok (fun x E ρ s => gt x ρ fun ρ' => tb E ρ' s) E (xs.drop (i + 1)) ρ' s', fun σ' H' h' => ⟨xs.length - (i + 1), by omega, rfl, h'⟩, fun x H3 hy => ?_⟩
    obtain ⟨Hs3, ly, rx⟩ := wk.yld i _ s2 Hs2 H2 x H3 e2 S2.sub S2.rel hok2 hx hy
    have g3 := ly.go S2.rel
    refine l W B σ2 H3 ρ2 s2 Hs3 x _ _ _ (S2.step g3) rx hgo fun ρ4 σ4 hR4 S4 _ => ?_
    refine ⟨Hs3, ρ4, s2, _, S4, hR4, ⟨fun ρ' s' Hs' σ' H' a b S' => ⟨hlt, Hs', ρ', s', e2.trans (g3.fz.trans b), S', a.1, a.2⟩, k.rt, fun ρ' s' Hs' σ' H' a b S' => k.nx ρ' s' Hs' σ' H' a (g1.fz.trans (e2.trans (g3.fz.trans b))) S', fun ρ' s' Hs' σ' H' a b S' => ⟨hlt, Hs', ρ', s', e2.trans (g3.fz.trans b), S', a.1, a.2⟩⟩⟩
  · have e : i = xs.length := by omega
    subst e
    rw [List.drop_length] at hgo
    exact .inl ⟨wk.stop s2 Hs2 H2 e2 S2.sub S2.rel hok2, k.nx ρ2 s2 Hs2 σ2 H2 hgo (g1.fz.trans e2) S2⟩
def lcGoK {S : Type} (ok : S → Prop) (body : D → S → (Option D → S → Prop) → Prop) : List D → List D → S → (List D → S → Prop) → Prop
  | [], acc, s, Q => Q acc s
  | x :: xs, acc, s, Q => body x s fun o s' => ok s' ∧ lcGoK ok body xs (acc ++ o.toList) s' Q
def dLcK (ti : TDK W) (gt : TDG) (tt : TDB W) (te : TD W) (vs : List Nat) : TD W := fun ρ s Q => ti ρ s fun xs ok s1 => xs.length ≤ sizeLine ∧ ok s1 ∧ lcGoK ok (lcBody gt tt te (wipeD ρ vs)) xs [] s1 fun ys s2 => Q (.lst ys) s2
theorem lc_turnsK {tg : Expr} {ti : TDK W} {g : TG} {gt : TDG} {tt : TDB W} {te : TD W} {is vs : List Nat} {σ : L2.St} {H : Hp} {Q : VK} (hv : ∀ i ∈ is, i ∈ vs)
    (hg : ∀ (B : Bs W) σ H ρ s Hs x d R Q, Stt (cn X) W B σ H ρ s Hs → Rp (cn X) Hs x d → gt d ρ R → (∀ ρ' σ', R ρ' → Stt (cn X) W B σ' H ρ' s Hs → (∀ vs, (∀ i ∈ is, i ∈ vs) → wipe σ' vs = wipe σ vs) → Q σ' H) → g x σ H Q)
    (h : liftE (cn X) W B (dLcK ti gt tt te vs) σ H Q) : tLc (liftK (cn X) W B ti) g (liftT (cn X) W B tt) (liftE (cn X) W B te) vs σ H Q := by
  obtain ⟨Hs, ρ, s, R, S, h1, k⟩ := h
  refine ⟨Hs, ρ, s, _, S, h1, fun xs ok s1 Hs1 H1 J hR g1 wk => ?_⟩
  obtain ⟨hz, hok, hL⟩ := hR
  intro p hp
  have S1 := S.step g1
  have hps : Hs1 p = none := g1.sub.free hp
  have hpw : ¬ W.own s1 p := fun z => by
    have := W.there g1.rel z
    exact this hp
  -- the invariant
  refine ⟨fun i m H' => m = xs.length - i ∧ i ≤ xs.length ∧ ∃ Hs' s' acc vacc, Go W s1 Hs1 H1 s' Hs' H' ∧ H' p = some (.lst vacc) ∧ RpA (cn X) Hs' vacc acc ∧ acc.length ≤ i ∧ Hs' p = none ∧ ¬ W.own s' p ∧ ok s' ∧
    lcGoK ok (lcBody gt tt te (wipeD ρ vs)) (xs.drop i) acc s' (fun ys s2 => R (.lst ys) s2), ⟨_, rfl, Nat.zero_le _, Hs1, s1, [], [], (Lay.mut g1.sub hp).go g1.rel, upd_same, .nil, Nat.le_refl _, hps, hpw, hok, hL⟩, ?_⟩
  rintro i m H2 ⟨rfl, hi, Hs2, s2, acc, vacc, g2, hp2, ra, hacc, hps2, hpw2, hok2, hgo⟩
  by_cases hlt : i < xs.length
  · have hx : xs[i]? = some xs[i] := List.getElem?_eq_getElem hlt
    rw [List.drop_eq_getElem_cons hlt] at hgo
    refine .inr ⟨wk.go i s2 Hs2 H2 g2.fz g2.sub g2.rel hok2 hlt, fun H' => i + 1 ≤ xs.length ∧ ∃ Hs' s' acc vacc, Go W s1 Hs1 H1 s' Hs' H' ∧ H' p = some (.lst vacc) ∧ RpA (cn X) Hs' vacc acc ∧ acc.length ≤ i + 1 ∧ Hs' p = none ∧ ¬ W.own s' p ∧ ok s' ∧
      lcGoK ok (lcBody gt tt te (wipeD ρ vs)) (xs.drop (i + 1)) acc s' (fun ys s2 => R (.lst ys) s2), fun H' h' => ⟨xs.length - (i + 1), by omega, rfl, h'⟩, fun x H3 hy => ?_⟩
    obtain ⟨Hs3, ly, rx⟩ := wk.yld i _ s2 Hs2 H2 x H3 g2.fz g2.sub g2.rel hok2 hx hy
    have g3 := ly.go g2.rel
    have S3 : Stt (cn X) W B (wipe σ vs) H3 (wipeD ρ vs) s2 Hs3 := ((S1.step g2).step g3).wipe vs
    have keep : ∀ {s' : W.S} {Hs' H' : Hp}, Go W s2 Hs3 H3 s' Hs' H' → H' p = some (.lst vacc) ∧ Hs' p = none ∧ ¬ W.own s' p := fun {s' Hs' H'} g => by
      have h3 : H3 p = some (.lst vacc) := g3.ext p _ hp2 hpw2
      have n3 : Hs3 p = none := by
        cases q : Hs3 p with
        | none => rfl
        | some u =>
          rcases g3.new p (by rw [q]; exact fun z => nomatch z) with z | z
          · exact absurd hps2 z
          · rw [hp2] at z; cases z
      refine ⟨g.ext p _ h3 hpw2, ?_, fun z => ?_⟩
      · cases q : Hs' p with
        | none => rfl
        | some u =>
          rcases g.new p (by rw [q]; exact fun z => nomatch z) with z | z
          · exact absurd n3 z
          · rw [h3] at z; cases z
      · rcases g.wn p z with y | y
        · exact hpw2 y
        · rw [h3] at y; cases y
    refine hg B (wipe σ vs) H3 (wipeD ρ vs) s2 Hs3 x _ _ _ S3 rx hgo fun ρ4 σ4 hR4 S4 w4 => ?_
    have ew : wipe σ4 vs = wipe σ vs := by
      rw [w4 vs hv]
      have : ∀ (us : List Nat) (τ : L2.St), (∀ i ∈ us, i ∈ vs) → wipe (wipe τ us) vs = wipe τ vs := by
        intro us
        induction us with
        | nil => intro τ _; rfl
        | cons j js ih =>
          intro τ hj
          show wipe ((wipe τ js).set j none) vs = wipe τ vs
          rw [wipe_set (hj j (by simp)), ih τ fun i hi => hj i (by simp [hi])]
      exact this vs σ fun i hi => hi
    refine ⟨ew, Hs3, ρ4, s2, _, S4, hR4, fun b s5 Hs5 H5 hR5 g5 => ?_⟩
    cases b with
    | false =>
      rw [if_neg Bool.false_ne_true] at hR5 ⊢
      obtain ⟨c1, c2, c3⟩ := keep g5
      obtain ⟨ok5, hR5⟩ := hR5
      rw [Option.toList_none, List.append_nil] at hR5
      exact ⟨hlt, Hs5, s5, acc, vacc, g2.trans (g3.trans g5), c1, (ra.same g3.fz).same g5.fz, by omega, c2, c3, ok5, hR5⟩
    | true =>
      rw [if_pos rfl] at hR5 ⊢
      refine ⟨Hs5, ρ4, s5, _, S4.step g5, hR5, fun d s6 Hs6 H6 v hR6 g6 rv => ?_⟩
      obtain ⟨c1, c2, c3⟩ := keep (g5.trans g6)
      have ra6 : RpA (cn X) Hs6 vacc acc := ((ra.same g3.fz).same g5.fz).same g6.fz
      refine ⟨vacc, c1, by rw [ra6.length]; omega, hlt, Hs6, s6, acc ++ [d], vacc ++ [v], ?_, upd_same, ra6.append (.one rv), by simp; omega, c2, c3, hR6.1, hR6.2⟩
      -- the item put in
      have gg := g2.trans (g3.trans (g5.trans g6))
      refine ⟨gg.fz, fun a u q => ?_, gg.new, fun a u q n => ?_, fun a q => ?_, gg.wn, W.keep gg.rel (Same.refl _) (fun _ _ z => z) fun a q => ?_⟩
      · rw [upd_ne (fun z => by rw [z, c2] at q; cases q)]
        exact gg.sub a u q
      · rw [upd_ne (fun z => by rw [z, hp] at q; cases q)]
        exact gg.ext a u q n
      · by_cases z : a = p
        · rw [z, upd_same]; exact fun y => nomatch y
        · rw [upd_ne z]; exact gg.th a q
      · rw [upd_ne (fun z => by rw [z] at q; exact c3 q)]
  · have e : i = xs.length := by omega
    subst e
    refine .inl ⟨wk.stop s2 Hs2 H2 g2.fz g2.sub g2.rel hok2, ?_⟩
    rw [List.drop_length] at hgo
    have hs2 : Same Hs2 H2 := g2.sub
    refine k (.lst acc) s2 (upd Hs2 p (.lst vacc)) H2 _ hgo ?_ (.lstN hps2 (Nat.le_trans hacc hz) ra)
    have gg := g1.trans g2
    refine ⟨gg.fz.trans (Same.updR hps2), fun a u q => ?_, fun a q => ?_, gg.ext, gg.th, gg.wn, W.keep gg.rel (Same.updR hps2) (upd_keep hpw2) fun _ _ => rfl⟩
    · by_cases z : a = p
      · rw [z, upd_same] at q
        rw [z, hp2]
        exact q
      · rw [upd_ne z] at q
        exact hs2 a u q
    · by_cases z : a = p
      · right
        rw [z]
        exact free_of g1.th hp
      · rw [upd_ne z] at q
        exact gg.new a q
/-- [elt for tg in iter if ..] -/
theorem de_lcK {elt tg iter : Expr} {ifs : List Expr} {scope : Scope} {own : List (Str × Nat)} {pos : Pos} {ti : TDK W} {is : List Nat} {gt : TDG} {tt : TDB W} {te : TD W} (hc : X.calm = true) (hN : X.N.Nodup) (hi : DIK W B X tg iter ti) (ok : BlkOk X.N X.env.scope scope own)
    (hg : ∀ (s : Shared) (H : Hp) (C : Addr) (cl : List (Str × Addr)) (fp : List Addr), DG (X.blk s H scope (compEnvC scope cl C X.env) fp) tg is gt) (ht : ∀ (s : Shared) (H : Hp) (C : Addr) (cl : List (Str × Addr)) (fp : List Addr), DTs W B (X.blk s H scope (compEnvC scope cl C X.env) fp) ifs tt)
    (he : ∀ (s : Shared) (H : Hp) (C : Addr) (cl : List (Str × Addr)) (fp : List Addr), DE W B (X.blk s H scope (compEnvC scope cl C X.env) fp) elt te) (hv : ∀ i ∈ is, i ∈ own.map (·.2) := by decide) (hs : ∀ x, foldedSetIterable iter X.env x = pure x := by intro _; rfl) :
    DE W B X (.ListComp elt [⟨tg, iter, ifs, 0⟩] scope pos) (dLcK ti gt tt te (own.map (·.2))) := by
  refine ⟨⟨fun pins s σ H Q I h => ?_⟩⟩
  -- a target's reading that serves in every block
  have hG : ∀ (s : Shared) (H : Hp) (C : Addr) (cl : List (Str × Addr)) (fp : List Addr), PG (X.blk s H scope (compEnvC scope cl C X.env) fp) tg (fun x σ H Q => ∃ (B : Bs W) (ρ : Env) (s : W.S) (Hs : Hp) (d : D) (R : Env → Prop), Stt (cn X) W B σ H ρ s Hs ∧ Rp (cn X) Hs x d ∧ gt d ρ R ∧
      ∀ ρ' σ', R ρ' → Stt (cn X) W B σ' H ρ' s Hs → (∀ vs, (∀ i ∈ is, i ∈ vs) → wipe σ' vs = wipe σ vs) → Q σ' H) := fun s H C cl fp => by
    obtain ⟨g, pg, l⟩ := hg s H C cl fp
    refine ⟨fun pins s1 σ H1 v u Q I1 r ⟨B, ρ, st, Hs, d, R, S, rx, h, k⟩ => ?_⟩
    exact pg.run pins s1 σ H1 v u Q I1 r (l W B σ H1 ρ st Hs v d R Q S rx h k)
  exact (pe_lc hc hN hi.run ok hG (fun s H C cl fp => (ht s H C cl fp).run) (fun s H C cl fp => (he s H C cl fp).run) hs).run pins s σ H Q I
    (lc_turnsK (tg := tg) (is := is) hv (fun B σ H ρ s Hs x d R Q S rx h k => ⟨B, ρ, s, Hs, d, R, S, rx, h, k⟩) h)
end
end Dv

set_option Elab.async false
set_option linter.all false
set_option maxRecDepth 100000
/-! Methods and classes of the text; turns over things that stay. -/
namespace Dv
open PySem L2 PyProof.Rows
theorem _root_.L2.Room.u1 {k : Nat} {A : Around} (r : Room k A) : A.units + 1 < cLine := by have := r.un; omega
def clsBody : Stmt → List Stmt
  | .ClassDef (body := b) .. => b
  | _ => []
/-- the method m of the class at C stands in the text -/
structure MDef (K : PySem.W.Frag) (C : Addr) (m qual : Str) (st : Stmt) (ps : List Str) : Prop where
  ex : ∃ f fd, Fun K m qual st f fd ∧ Meth K C m f ∧ Binds K fd ps []
/-- the class x with its __init__ -/
structure KDef (K : PySem.W.Frag) (mg : Str → Option Value) (x : Str) (C : Addr) (qual : Str) (st : Stmt) (ps : List Str) : Prop where
  ex : ∃ f fd, Fun K "__init__" qual st f fd ∧ Mk K C f ∧ mg x = some (.ref C) ∧ Binds K fd ps []
abbrev OkC := List D → Cs → (D → Cs → Prop) → Prop
abbrev OkCX := List D → Cs → (D → Cs → Prop) → (Value → Cs → Prop) → Prop
section
open PySem.Spec
variable {P : Program} {w : World} {K : PySem.W.Frag} {mg : Str → Option Value} {base : Heap} {x m qual : Str} {ps : List Str} {st : Stmt} {C : Addr}
theorem MDef.okW {W : Wld} {N : List Str} {k n : Nat} {ok : OkD W} (D : MDef K C m qual st ps) (S : FnScope N ps (defScope st)) (hn : ps.length = n)
    (hbody : ∀ (f : Addr) (cdv : Value) (A : Around) (outer : List PySem.Env) (s : Shared) (H : Hp) (E : XK) (B : Bs W), Room k (A.deeper (envOfC qual (defScope st) s.heap.objs.size f cdv)) →
      ∃ t, DSs W B (cxOf CX0 P w K mg base N qual (defScope st) f cdv A outer s H E).nox (defBody st) t ∧
        ∀ ds s R, ds.length = n → ok ds s R → t { nx := fun _ s' => R .non s', rt := R } (ds.map .d ++ List.replicate (N.length - n) .un) s) : Mth P w K mg base CX0 C m (k + 1) ps (spD ⟨P, w, K⟩ W n ok) := by
  obtain ⟨f, fd, F, me, b⟩ := D.ex
  exact ⟨f, fd, me, okD F S hn fun cdv A outer s H E B hr => hbody f cdv A outer s H E B hr, b⟩
theorem MDef.okX {W : Wld} {N : List Str} {k n : Nat} {ok : OkX W} (D : MDef K C m qual st ps) (S : FnScope N ps (defScope st)) (hn : ps.length = n)
    (hbody : ∀ (f : Addr) (cdv : Value) (A : Around) (outer : List PySem.Env) (s : Shared) (H : Hp) (E : XK) (B : Bs W), Room k (A.deeper (envOfC qual (defScope st) s.heap.objs.size f cdv)) →
      ExLk (cxOf (L2.CX P w) P w K mg base N qual (defScope st) f cdv A outer s H E) W B →
      ∃ t, DSs W B (cxOf (L2.CX P w) P w K mg base N qual (defScope st) f cdv A outer s H E) (defBody st) t ∧
        ∀ ds s R RE, ds.length = n → ok ds s R RE → B.ex = (fun _ cls s => RE cls s) → t { nx := fun _ s' => R .non s', rt := R } (ds.map .d ++ List.replicate (N.length - n) .un) s) : Mth P w K mg base (L2.CX P w) C m (k + 1) ps (spX ⟨P, w, K⟩ W n ok) := by
  obtain ⟨f, fd, F, me, b⟩ := D.ex
  exact ⟨f, fd, me, Dv.okX F S hn fun cdv A outer s H E B hr xl => hbody f cdv A outer s H E B hr xl, b⟩
theorem KDef.okW {W : Wld} {N : List Str} {k n : Nat} {ok : OkD W} (D : KDef K mg x C qual st ps) (S : FnScope N ps (defScope st)) (hn : ps.length = n)
    (hbody : ∀ (f : Addr) (cdv : Value) (A : Around) (outer : List PySem.Env) (s : Shared) (H : Hp) (E : XK) (B : Bs W), Room k (A.deeper (envOfC qual (defScope st) s.heap.objs.size f cdv)) →
      ∃ t, DSs W B (cxOf CX0 P w K mg base N qual (defScope st) f cdv A outer s H E).nox (defBody st) t ∧
        ∀ ds s R, ds.length = n → ok ds s R → t { nx := fun _ s' => R .non s', rt := R } (ds.map .d ++ List.replicate (N.length - n) .un) s) : Mkr P w K mg base x C (k + 1) ps (spD ⟨P, w, K⟩ W n ok) := by
  obtain ⟨f, fd, F, mk, mgx, b⟩ := D.ex
  exact ⟨f, fd, mk, okD F S hn fun cdv A outer s H E B hr => hbody f cdv A outer s H E B hr, mgx, b⟩
end
section
variable {W : Wld} {B : Bs W} {X : Cx} {e o : Expr} {es : List Expr} {to : TD W} {ta : TDA W} {pos apos : Pos} {m x : Str} {C : Addr} {fs : List Str} {U : Sub (cn X) W} {k n : Nat} {ps : List Str}
/-- o.m(..), a method that may raise -/
def dMethX (B : Bs W) (C : Addr) {c : Cn} (U : Sub c W) (m : Str) (n : Nat) (ok : OkX W) (to : TD W) (ta : TDA W) : TD W := fun ρ s Q => to ρ s fun d s1 => ∃ a gs, d = .raw (.ref a) ∧ U.get s1 a = some (.ins C gs) ∧ getF m gs = none ∧ ta ρ s1 fun ds s2 => (D.raw (.ref a) :: ds).length = n ∧ ok (.raw (.ref a) :: ds) s2 Q (B.ex ρ)
theorem de_methX {pl : Sem Bool} {ok : OkX W} (U : Sub (cn X) W) (F : ClF X.K C fs) (M : Mth X.prog X.w X.K X.mg X.base (L2.CX X.prog X.w) C m k ps (spX (cn X) W n ok)) (xl : ExLk X W B) (hr : Room k X.A) (ho : DE W B X o to) (ha : DA W B X (e :: es) ta)
    (hst : starEach (e :: es) X.env = (false, eval e X.env) :: starEach es X.env := by rfl) (hpl : (backTo pos (starEach es X.env)).any (·.1) = false := by rfl)
    (ht : eval (.Call (.Attribute o m apos) (e :: es) [] pos) X.env = (do
      let ov ← eval o X.env
      standAt apos.atName
      let (f, first) ← holding [ov] (getMethod ov m pl)
      callWith pos f first (backTo pos (starEach (e :: es) X.env)) (backToKw pos (keywordEach [] X.env))) := by rfl) : DE W B X (.Call (.Attribute o m apos) (e :: es) [] pos) (dMethX B C U m n ok to ta) := by
  obtain ⟨f, fd, hm, G, b⟩ := M.ex
  obtain ⟨Wx, tk, lk⟩ := xl.ex
  refine ⟨⟨fun pins s0 σ H Q I h => ?_⟩⟩
  obtain ⟨Hs, ρ, s, R, S, h1, kk⟩ := h
  have hA : liftE (cn X) W B to σ H (fun x H1 => ∃ a dx gs, x = .ref a ∧ H1 a = some (.ins C dx gs) ∧ gs.lookup m = none ∧ liftA (cn X) W B ta σ H1 (fun vs H2 => spX (cn X) W n ok (x :: vs) H2 Q (WE Wx σ))) := by
    refine ⟨Hs, ρ, s, _, S, h1, fun d s1 Hs1 H1 v hR g r => ?_⟩
    obtain ⟨a, gs, rfl, hg, hn, hR⟩ := hR
    have := r.rawE
    subst this
    obtain ⟨_, u, hu, cr⟩ := U.rel g.rel a _ hg
    cases cr with
    | ins rp =>
      refine ⟨a, _, _, rfl, hu, rp.lookN hn, Hs1, ρ, s1, _, S.step g, hR, fun ds s2 Hs2 H2 vs hR2 g2 rs => ?_⟩
      obtain ⟨hl, hok⟩ := hR2
      exact ⟨Hs2, s2, .raw (.ref a) :: ds, _, _, g2.rel, g2.sub, .cons (.raw _) rs, hl, hok, fun d s3 Hs3 H3 w hd g3 rw' => kk d s3 Hs3 H3 w hd (g.trans (g2.trans g3)) rw', fun cls s3 Hs3 H3 hx g3 => lk σ H3 ρ s3 Hs3 cls (((S.step g).step g2).step g3) hx⟩
  refine PySem.W.methodCall_KW (pl := pl) (thn (ho.run.run pins s0 σ H _ I hA) fun u s1 ⟨x, H1, I1, rx, a, dx, gs, ex, ea, l, q⟩ => ?_) ht
  subst ex
  obtain rfl : u = Value.ref a := rx
  refine getmeth_ok I1 ea F.cls hm l ?_
  refine PySem.W.callWith_K (first := [.ref a]) (h₀ := X.base) I.ok.mod.kin hm.kp (thn (ha.run.run pos pins s1 σ H1 _ I1 q) fun us s2 ⟨vs, H2, I2, r, q2⟩ => ⟨I2.kIn, ?_⟩) hst hpl
  exact run_fnS (us := .ref a :: us) (vs := .ref a :: vs) G hr b (passAt tk σ) I2 (.cons rfl r) q2
end
/-- turns over items that stay -/
theorem for_mapgK {W : Wld} {α : Type} {g : α → D} {ok : W.S → Prop} {body : D → TDS W} {E : EndsD W} (I : List α → Env → W.S → Prop) : ∀ {zs pre : List α} {ρ : Env} {s : W.S}, I pre ρ s →
    (∀ qs z rs, pre ++ zs = qs ++ z :: rs → ∀ ρ s, I qs ρ s → ∀ K : Env → W.S → Prop, (∀ ρ' s', ok s' → I (qs ++ [z]) ρ' s' → K ρ' s') → body (g z) { nx := K, rt := E.rt, bk := E.nx, ct := K } ρ s) →
    (∀ ρ s, I (pre ++ zs) ρ s → E.nx ρ s) → (∀ qs ρ s, I qs ρ s → ok s) → forGoK ok body E (zs.map g) ρ s
  | [], pre, ρ, s, h, _, q, _ => q ρ s (by simpa using h)
  | z :: zs, pre, ρ, s, h, st, q, hk => st pre z zs rfl ρ s h _ fun ρ' s' h1 h' =>
    ⟨h1, for_mapgK I (zs := zs) (pre := pre ++ [z]) h' (fun qs y rs e => st qs y rs (by simpa using e)) (fun ρ s hh => q ρ s (by simpa using hh)) hk⟩
theorem lc_filterK {S α : Type} {g : α → D} {ok : S → Prop} {body : D → S → (Option D → S → Prop) → Prop} (p : α → Bool) (f : α → D) : ∀ {xs : List α} {acc : List D} {s : S} {Q : List D → S → Prop}, ok s → (∀ x ∈ xs, ∀ K : Option D → S → Prop, K (if p x then some (f x) else none) s → body (g x) s K) →
    Q (acc ++ (xs.filter p).map f) s → lcGoK ok body (xs.map g) acc s Q
  | [], acc, s, Q, _, _, q => by
    show Q acc s
    simpa using q
  | x :: xs, acc, s, Q, hk, h, q => by
    refine h x (by simp) _ ⟨hk, lc_filterK p f hk (fun y hy => h y (by simp [hy])) ?_⟩
    rw [List.filter_cons] at q
    cases e : p x with
    | true => rw [e] at q; simpa using q
    | false => rw [e] at q; simpa using q
end Dv

set_option Elab.async false
set_option linter.all false
set_option maxRecDepth 100000
/-! Methods and defs with a try, or with a raise that is not reached. -/
namespace Dv
open PySem L2 PyProof.Rows
section
open PySem.Spec
variable {P : Program} {w : World} {K : PySem.W.Frag} {mg : Str → Option Value} {base : Heap} {x m qual : Str} {ps : List Str} {st : Stmt} {C : Addr}
theorem okDT {W : Wld} {f : Addr} {fd : FuncData} {N : List Str} {k n : Nat} {ok : OkD W} (F : Fun K x qual st f fd) (S : FnScope N ps (defScope st)) (hn : ps.length = n)
    (hbody : ∀ (cdv : Value) (A : Around) (outer : List PySem.Env) (s : Shared) (H : Hp) (E : XK) (B : Bs W), Room k (A.deeper (envOfC qual (defScope st) s.heap.objs.size f cdv)) → B.ex = (fun _ _ _ => False) →
      ∃ t, DSs W B (cxOf CX0 P w K mg base N qual (defScope st) f cdv A outer s H E) (defBody st) t ∧
        ∀ ds s R, ds.length = n → ok ds s R → t { nx := fun _ s' => R .non s', rt := R } (ds.map .d ++ List.replicate (N.length - n) .un) s) : FnOk P w K mg base CX0 (k + 1) f fd ps (spD ⟨P, w, K⟩ W n ok) := by
  obtain ⟨oc, od, kV, doc, pm, an, cdv0, ct, osl, rfl, lk, hcd⟩ := F.ex
  refine fn_of lk hcd S (fun vs H Q E h => ?_) (fun A outer s H vs Q E hr h => ?_)
  · obtain ⟨Hs, s, ds, R, _, _, ra, hl, _⟩ := h
    rw [ra.length, hl, hn]
  · obtain ⟨Hs, s0, ds, R, hrel, hsub, ra, hl, ho, k⟩ := h
    obtain ⟨t, ht, hq⟩ := hbody _ A outer s H E ⟨s0, Hs, H, fun _ _ _ => False⟩ hr rfl
    refine ⟨_, ht.run, Hs, _, s0, _, ?_, hq ds s0 R hl ho, ⟨fun ρ s' Hs' σ' H' a _ S' => k .non s' Hs' H' .non a S'.go .non, fun d s' Hs' H' v a g r => k d s' Hs' H' v a g r, fun _ _ _ _ _ a => a.elim, fun _ _ _ _ _ a => a.elim⟩⟩
    have q := Stt.start (ex := fun _ _ _ => False) (c := ⟨P, w, K⟩) (W := W) (m := N.length - n) hsub hrel ra
    have e : L2.start N vs = vs.map some ++ List.replicate (N.length - n) none := by
      unfold L2.start
      rw [ra.length, hl]
    rw [e]
    exact q
theorem Def.okWT {W : Wld} {N : List Str} {k n : Nat} {ok : OkD W} (D : Def K mg x st ps) (S : FnScope N ps (defScope st)) (hn : ps.length = n)
    (hbody : ∀ (f : Addr) (cdv : Value) (A : Around) (outer : List PySem.Env) (s : Shared) (H : Hp) (E : XK) (B : Bs W), Room k (A.deeper (envOfC x (defScope st) s.heap.objs.size f cdv)) → B.ex = (fun _ _ _ => False) →
      ∃ t, DSs W B (cxOf CX0 P w K mg base N x (defScope st) f cdv A outer s H E) (defBody st) t ∧
        ∀ ds s R, ds.length = n → ok ds s R → t { nx := fun _ s' => R .non s', rt := R } (ds.map .d ++ List.replicate (N.length - n) .un) s) : Cal P w K mg base x (k + 1) ps (spD ⟨P, w, K⟩ W n ok) :=
  D.cal fun f fd F => okDT F S hn fun cdv A outer s H E B hr => hbody f cdv A outer s H E B hr
theorem MDef.okWT {W : Wld} {N : List Str} {k n : Nat} {ok : OkD W} (D : MDef K C m qual st ps) (S : FnScope N ps (defScope st)) (hn : ps.length = n)
    (hbody : ∀ (f : Addr) (cdv : Value) (A : Around) (outer : List PySem.Env) (s : Shared) (H : Hp) (E : XK) (B : Bs W), Room k (A.deeper (envOfC qual (defScope st) s.heap.objs.size f cdv)) → B.ex = (fun _ _ _ => False) →
      ∃ t, DSs W B (cxOf CX0 P w K mg base N qual (defScope st) f cdv A outer s H E) (defBody st) t ∧
        ∀ ds s R, ds.length = n → ok ds s R → t { nx := fun _ s' => R .non s', rt := R } (ds.map .d ++ List.replicate (N.length - n) .un) s) : Mth P w K mg base CX0 C m (k + 1) ps (spD ⟨P, w, K⟩ W n ok) := by
  obtain ⟨f, fd, F, me, b⟩ := D.ex
  exact ⟨f, fd, me, okDT F S hn fun cdv A outer s H E B hr => hbody f cdv A outer s H E B hr, b⟩
end
end Dv

set_option Elab.async false
set_option linter.all false
set_option maxRecDepth 100000
/-! The rules of the cells for use in the blocks of comprehensions: the part's world is named by itself. -/
namespace Dv
open PySem L2 PyProof.Rows
section
variable {W : Wld} {B : Bs W} {X : Cx} {a b e o i f value : Expr} {es : List Expr} {te ta tk tv tx to td : TD W} {tas : TDA W} {pos pos' tpos p' apos cpos : Pos} {c : Cn} {fs : List Str} {C : Addr} {g m x : Str} {k n : Nat} {ps : List Str}
theorem cnE {v : Cn → Prop} (h : v (cn X)) (hc : cn X = c) : v c := hc ▸ h
theorem de_dgetB (U : Sub c W) (hu : X.A.units + 1 < cLine) (ho : DE W B X o td) (hi : DE W B X i tk) (hs : NoSl i := by exact fun _ _ => rfl) (hc : cn X = c := by rfl) : DE W B X (.Subscript o i pos) (dDGet U td tk) := by
  subst hc
  exact de_dgetC U hu ho hi hs
theorem de_dinB (U : Sub c W) (hu : X.A.units + 1 < cLine) (hi : DE W B X i tk) (ho : DE W B X o td) (h1 : behindInMarks .In o = false := by first | exact nobehind _ (by decide) (by decide) | rfl) (hc : cn X = c := by rfl) : DE W B X (.Compare i [.In] [o] pos) (dDIn U false tk td) := by
  subst hc
  exact de_dinC U hu hi ho h1
theorem dt_dinB (U : Sub c W) (hu : X.A.units + 1 < cLine) (hi : DE W B X i tk) (ho : DE W B X o td) (h1 : behindInMarks .In o = false := by first | exact nobehind _ (by decide) (by decide) | rfl) (hc : cn X = c := by rfl) : DT W B X (.Compare i [.In] [o] pos) (dB (dDIn U false tk td)) := by
  subst hc
  exact dt_dinC U hu hi ho h1
theorem de_dninB (U : Sub c W) (hu : X.A.units + 1 < cLine) (hi : DE W B X i tk) (ho : DE W B X o td) (h1 : behindInMarks .NotIn o = false := by first | exact nobehind _ (by decide) (by decide) | rfl) (hc : cn X = c := by rfl) : DE W B X (.Compare i [.NotIn] [o] pos) (dDIn U true tk td) := by
  subst hc
  exact de_dninC U hu hi ho h1
theorem dt_dninB (U : Sub c W) (hu : X.A.units + 1 < cLine) (hi : DE W B X i tk) (ho : DE W B X o td) (h1 : behindInMarks .NotIn o = false := by first | exact nobehind _ (by decide) (by decide) | rfl) (hc : cn X = c := by rfl) : DT W B X (.Compare i [.NotIn] [o] pos) (dB (dDIn U true tk td)) := by
  subst hc
  exact dt_dninC U hu hi ho h1
theorem de_dget2B (U : Sub c W) (hu : X.A.units + 1 < cLine) (ho : DE W B X o td) (he : DE W B X e tk) (hf : DE W B X f tx) (m : M2 X o "get" apos e f cpos := by exact ⟨rfl, rfl, rfl, rfl⟩) (hc : cn X = c := by rfl) : DE W B X (.Call (.Attribute o "get" apos) [e, f] [] cpos) (dDGet2 U td tk tx) := by
  subst hc
  exact de_dget2C U hu ho he hf m
theorem de_fldB (U : Sub c W) (F : ClF X.K C fs) (hf : g ∈ fs) (he : DE W B X e te) (hb : attributeBase e g X.env (eval e X.env) = eval e X.env := by rfl) (hc : cn X = c := by rfl) : DE W B X (.Attribute e g pos) (dFld C U g te) := by
  subst hc
  exact de_fld U F hf he hb
theorem de_methB {pl : Sem Bool} {ok : OkD W} (U : Sub c W) (F : ClF X.K C fs) (M : Mth X.prog X.w X.K X.mg X.base CX0 C m k ps (spD c W n ok)) (hr : Room k X.A) (ho : DE W B X o to) (ha : DA W B X (e :: es) tas) (hc : cn X = c := by rfl)
    (hst : starEach (e :: es) X.env = (false, eval e X.env) :: starEach es X.env := by rfl) (hpl : (backTo pos (starEach es X.env)).any (·.1) = false := by rfl)
    (ht : eval (.Call (.Attribute o m apos) (e :: es) [] pos) X.env = (do
      let ov ← eval o X.env
      standAt apos.atName
      let (f, first) ← holding [ov] (getMethod ov m pl)
      callWith pos f first (backTo pos (starEach (e :: es) X.env)) (backToKw pos (keywordEach [] X.env))) := by rfl) : DE W B X (.Call (.Attribute o m apos) (e :: es) [] pos) (dMeth C U m n ok to tas) := by
  subst hc
  exact de_meth U F M hr ho ha hst hpl ht
theorem de_meth0B {pl : Sem Bool} {ok : OkD W} (U : Sub c W) (F : ClF X.K C fs) (M : Mth X.prog X.w X.K X.mg X.base CX0 C m k ps (spD c W n ok)) (hr : Room k X.A) (ho : DE W B X o to) (hc : cn X = c := by rfl)
    (ht : eval (.Call (.Attribute o m apos) [] [] pos) X.env = (do
      let ov ← eval o X.env
      standAt apos.atName
      let (f, first) ← holding [ov] (getMethod ov m pl)
      callWith pos f first (backTo pos (starEach [] X.env)) (backToKw pos (keywordEach [] X.env))) := by rfl) : DE W B X (.Call (.Attribute o m apos) [] [] pos) (dMeth C U m n ok to dNil) := by
  subst hc
  exact de_meth0 U F M hr ho ht
theorem de_cmpB {op : CmpOp} {p : P2} {tb : TD W} (U : Sub c W) (ho : OpD X (compareOp op) p) (ha : DE W B X a ta) (hb : DE W B X b tb) (hc : cn X = c := by rfl) (hm : behindInMarks op b = false := by first | exact nomark _ | rfl) : DE W B X (.Compare a [op] [b] pos) (dOpC U p ta tb) := by
  subst hc
  exact de_cmpC U ho ha hb hm
theorem dt_cmpB {op : CmpOp} {p : P2} {tb : TD W} (U : Sub c W) (ho : OpD X (compareOp op) p) (ha : DE W B X a ta) (hb : DE W B X b tb) (hc : cn X = c := by rfl) (hm : behindInMarks op b = false := by first | exact nomark _ | rfl) : DT W B X (.Compare a [op] [b] pos) (dB (dOpC U p ta tb)) := by
  subst hc
  exact dt_cmpC U ho ha hb hm
theorem de_ixB {tb : TD W} (U : Sub c W) (ha : DE W B X a ta) (hb : DE W B X b tb) (hc : cn X = c := by rfl) (hs : PlainIx b := by exact fun _ _ => rfl) : DE W B X (.Subscript a b pos) (dIxC U ta tb) := by
  subst hc
  exact de_ixC U ha hb hs
theorem de_callCB {id : String} {p : PL} (U : Sub c W) (hcd : CallD X (.builtin id) p) (hg : Gl X x) (hm : X.mg x = none) (hv : bootBuiltins x = some (.builtin id)) (he : DE W B X e te) (hc : cn X = c := by rfl) (hn : x ≠ "__name__" := by decide) (hdb : (x == ("__debug__" : Str)) = false := by decide) (hs : starEach [e] X.env = [(false, eval e X.env)] := by rfl) : DE W B X (.Call (.Name x p') [e] [] pos) (dCallC U p te) := by
  subst hc
  exact de_callC U hcd hg hm hv he hn hdb hs
theorem de_listB (U : Sub c W) (hg : Gl X "list") (hm : X.mg "list" = none) (he : DE W B X e te) (hc : cn X = c := by rfl) (hs : starEach [e] X.env = [(false, eval e X.env)] := by rfl) : DE W B X (.Call (.Name "list" p') [e] [] pos) (dSeqC U .lst te) := by
  subst hc
  exact de_listC U hg hm he hs
theorem de_tupleB (U : Sub c W) (hg : Gl X "tuple") (hm : X.mg "tuple" = none) (he : DE W B X e te) (hc : cn X = c := by rfl) (hs : starEach [e] X.env = [(false, eval e X.env)] := by rfl) : DE W B X (.Call (.Name "tuple" p') [e] [] pos) (dSeqC U .tup te) := by
  subst hc
  exact de_tupleC U hg hm he hs
theorem de_methXB {pl : Sem Bool} {ok : OkX W} (U : Sub c W) (F : ClF X.K C fs) (M : Mth X.prog X.w X.K X.mg X.base (L2.CX X.prog X.w) C m k ps (spX c W n ok)) (xl : ExLk X W B) (hr : Room k X.A) (ho : DE W B X o to) (ha : DA W B X (e :: es) tas) (hc : cn X = c := by rfl)
    (hst : starEach (e :: es) X.env = (false, eval e X.env) :: starEach es X.env := by rfl) (hpl : (backTo pos (starEach es X.env)).any (·.1) = false := by rfl)
    (ht : eval (.Call (.Attribute o m apos) (e :: es) [] pos) X.env = (do
      let ov ← eval o X.env
      standAt apos.atName
      let (f, first) ← holding [ov] (getMethod ov m pl)
      callWith pos f first (backTo pos (starEach (e :: es) X.env)) (backToKw pos (keywordEach [] X.env))) := by rfl) : DE W B X (.Call (.Attribute o m apos) (e :: es) [] pos) (dMethX B C U m n ok to tas) := by
  subst hc
  exact de_methX U F M xl hr ho ha hst hpl ht
end
/-- the facts of the classes that a law's own try asks for: C is raised, Se is caught -/
structure TryC (K : PySem.W.Frag) (mg : Str → Option Value) (C Se : Addr) : Prop where
  xm : PySem.W.exmOne K (.ref C) (.ref Se) = some true
  kt : PySem.W.kitOne K (.ref C) (.ref C) = some true
  F : ExcC K C
  gC : mg "BadRow" = some (.ref C)
  gS : mg "StoreError" = some (.ref Se)
end Dv

set_option Elab.async false
set_option linter.all false
set_option maxRecDepth 100000
/-! d[k], a, b = ..; w beside the cells. -/
namespace Dv
open PySem L2 PyProof.Rows
section
variable {W : Wld} {B : Bs W} {X : Cx} {o i value : Expr} {tgs : List Expr} {te tk td : TD W} {is : List Nat} {gs : TDGs} {pos ps pt : Pos} {kt n : Nat}
/-- d[k], a, .. = a tuple -/
def dPutTup {c : Cn} (U : Sub c W) (n : Nat) (te td tk : TD W) (gs : TDGs) : TDS W := fun E ρ s => te ρ s fun v s1 => ∃ v0 vs, v = .tup (v0 :: vs) ∧ vs.length + 1 = n ∧ td ρ s1 fun d s2 => tk ρ s2 fun y s3 =>
  ∃ a kvs k, d = .raw (.ref a) ∧ U.get s3 a = some (.dct kvs) ∧ y = kD k ∧ kvs.length < sizeLine ∧ gs vs ρ fun ρ' => E.nx ρ' (U.put s3 (updS (U.get s3) a (.dct (putD kvs k v0))))
theorem ds_putTup (U : Sub (cn X) W) (hc : X.calm = true) (hu : X.A.units + 1 < cLine) (he : DE W B X value te) (ho : DE W B X o td) (hi : DE W B X i tk) (hg : DGs X tgs is gs)
    (hn : (assignEach (.Subscript o i ps :: tgs) X.env).length = n := by rfl) (hst : (assignEach (.Subscript o i ps :: tgs) X.env).findIdx? (·.1) = none := by rfl)
    (hcs : (assignEach (.Subscript o i ps :: tgs) X.env).map (·.2) = assign (.Subscript o i ps) X.env :: (assignEach tgs X.env).map (·.2) := by rfl)
    (hs : swapsWithSole [.Tuple (.Subscript o i ps :: tgs) kt pt] value pos.line X.env = pure false := by rfl) (hw : swappedStores [.Tuple (.Subscript o i ps :: tgs) kt pt] value X.env = pure none := by rfl)
    (h1 : (assignEach [.Tuple (.Subscript o i ps :: tgs) kt pt] X.env).map (·.2) = [assign (.Tuple (.Subscript o i ps :: tgs) kt pt) X.env] := by rfl)
    (ha : ∀ v, assign (.Subscript o i ps) X.env v = (do
      let ov ← holding [v] (eval o X.env)
      let iv ← holding [v, ov] (eval i X.env)
      standAt ps
      holding [v, ov, iv] (setItem ov iv v)
      release [v, ov, iv] []) := by intro _; rfl) : DS W B X (.Assign [.Tuple (.Subscript o i ps :: tgs) kt pt] value pos) (dPutTup U n te td tk gs) := by
  obtain ⟨u, pu, l⟩ := hg
  refine ⟨ps_imp (ps_asg he.run (pg_tup hc (pgs_cons (pg_sub ho.run hi.run (set_dict hu) ha) pu hcs) hn hst) hs hw h1) fun D σ H ⟨Hs, ρ, s, E, S, h1, kk⟩ => ?_⟩
  refine ⟨Hs, ρ, s, _, S, h1, fun v s1 Hs1 H1 w hR g rv => ?_⟩
  obtain ⟨v0, vs, rfl, hl, hR⟩ := hR
  have S1 := S.step g
  cases rv with
  | tup z hq ra =>
    cases ra with
    | cons r0 ra =>
      refine ⟨_, _, rfl, SqT_same S1.sub hq, by rw [List.length_cons, ra.length]; exact hl, ?_⟩
      refine ⟨_, _, rfl, Hs1, ρ, s1, _, S1, hR, fun d s2 Hs2 H2 w2 hR2 g2 r2 => ⟨Hs2, ρ, s2, _, S1.step g2, hR2, fun y s3 Hs3 H3 w3 hR3 g3 r3 => ?_⟩⟩
      obtain ⟨q, kvs, k, rfl, hx, rfl, hz, hg⟩ := hR3
      have := r2.rawE
      subst this
      have := r3.keyE
      subst this
      obtain ⟨_, uu, hu2, cr⟩ := U.rel g3.rel q _ hx
      cases cr with
      | dct z rp =>
        have rp2 := rp.put (k := k) ((r0.same g2.fz).same g3.fz)
        have g4 := U.step g3.rel (wc_upd (U.rel g3.rel) g3.sub hx (.dct (Nat.le_trans (putD_len kvs k v0) hz) rp2))
        have S4 := ((S1.step g2).step g3).step g4
        refine ⟨q, _, rfl, .inl ⟨_, k, hu2, rfl, by rw [rp.length]; exact hz, rfl⟩, ?_⟩
        refine l W B σ _ ρ _ Hs3 _ vs _ _ S4 ((ra.same g2.fz).same g3.fz) hg fun ρ' σ' hR' S' _ => ?_
        exact kk.nx ρ' _ _ _ _ hR' (g.fz.trans (g2.fz.trans (g3.fz.trans g4.fz))) S'
end
/-- x += i, of ints -/
theorem id_add {X : Cx} : IpD X .Add (intP (fun _ _ => True) fun i j => i + j) := ⟨_, ip_add, fun Hs H x y d e R Q hs rx ry ⟨i, j, h1, h2, _, h4⟩ k => by
  subst h1 h2
  exact ⟨i, j, rx.intE, ry.intE, k _ Hs H _ h4 (Lay.refl hs) (.int _)⟩⟩
/-- what holds between two statements, said once -/
theorem dSeq_cut {W : Wld} {a b : TDS W} {E : EndsD W} {ρ : Env} {s : W.S} (J : Env → W.S → Prop) (h1 : ∀ T : Env → W.S → Prop, (∀ ρ s, J ρ s → T ρ s) → a { nx := T, rt := E.rt, bk := E.bk, ct := E.ct } ρ s) (h2 : ∀ ρ s, J ρ s → b E ρ s) : dSeq a b E ρ s := h1 _ h2
/-- w = {"draws": e, "at": 0}, beside another world -/
def dEnterP {K : PySem.W.Frag} {W2 : Wld} (i : Nat) (te : TD (Wp (Wd K) W2)) : TDS (Wp (Wd K) W2) := fun E ρ s => s.1 = none ∧ te ρ s fun d s1 => s1.1 = none ∧ ∃ ns : List Int, d = .lst (ns.map .int) ∧ ∀ p : Addr, ¬ W2.own s1.2 p → E.nx (ρ.set i (.d (.raw (.ref p)))) (some p, s1.2)
theorem ds_enterP {X : Cx} {K : PySem.W.Frag} {W2 : Wld} {B : Bs (Wp (Wd K) W2)} {i : Nat} {x : Str} {e : Expr} {te : TD (Wp (Wd K) W2)} {pos pos' p1 p2 p3 p4 : Pos} {j1 j2 j3 : Nat} (hN : X.N.Nodup) (hi : X.N[i]? = some x) (hx : Loc X.env.scope x) (he : DE (Wp (Wd K) W2) B X e te)
    (hs : swapsWith (.Dict [some (.Constant (.str "draws") j1 p1), some (.Constant (.str "at") j2 p2)] [e, .Constant (.int 0) j3 p3] p4) (some (.Name x pos')) pos.line X.env = pure false := by rfl)
    (hf : X.fn x = true ∨ X.env.scope.names.lookup x = some .local := by first | exact .inl rfl | exact .inr rfl | assumption) (hK : X.K = K := by rfl) :
    DS (Wp (Wd K) W2) B X (.Assign [.Name x pos'] (.Dict [some (.Constant (.str "draws") j1 p1), some (.Constant (.str "at") j2 p2)] [e, .Constant (.int 0) j3 p3] p4) pos) (dEnterP i te) := by
  subst hK
  refine ⟨ps_imp (ps_set hN hi hx (pe_disp (pps_cons pe_str he.run (pps_cons pe_str pe_int pps_nil)) rfl rfl (fun z => nomatch z) (by show 2 ≤ 15; decide)) hs hf) fun D σ H h => ?_⟩
  obtain ⟨Hs, ρ, ⟨sa, sb⟩, E, S, ⟨e0, h1⟩, k⟩ := h
  have e0 : sa = none := e0
  subst e0
  intro p hp
  have S1 := S.step ((Lay.mut (o := .dK []) S.sub hp).go S.rel)
  refine ⟨Hs, ρ, (none, sb), _, S1, h1, fun d s1 Hs1 H1 v hR g r => ?_⟩
  obtain ⟨s1a, s1b⟩ := s1
  obtain ⟨e1, ns, e2, hq⟩ := hR
  have e1 : s1a = none := e1
  subst e1 e2
  have np : ¬ (Wp (Wd X.K) W2).own (none, sb) p := fun z => (Wp (Wd X.K) W2).there S.rel z hp
  have hp1 : H1 p = some (.dK []) := g.ext p _ upd_same np
  have np1 : ¬ (Wp (Wd X.K) W2).own (none, s1b) p := fun z => by
    rcases g.wn p z with y | y
    · exact np y
    · rw [upd_same] at y; cases y
  have hps : Hs p = none := S.sub.free hp
  have hps1 : Hs1 p = none := by
    cases q : Hs1 p with
    | none => rfl
    | some o =>
      rcases g.new p (by rw [q]; exact fun z => nomatch z) with z | z
      · exact absurd hps z
      · rw [upd_same] at z; cases z
  cases r with
  | @lst L vs _ z hL ra =>
    have ev := rpa_ints ra
    subst ev
    refine ⟨hp1, wKvs L 0, rfl, by show 2 ≤ 15; decide, ?_⟩
    rw [w_merge]
    have gC : Go (Wp (Wd X.K) W2) (none, sb) Hs H (some p, s1b) Hs1 (upd H1 p (.dK (wKvs L 0))) := by
      refine ⟨g.fz, fun a o q => ?_, fun a q => ?_, fun a o q n => ?_, fun a q => ?_, fun a q => ?_, ?_⟩
      · rw [upd_ne (fun z => by rw [z, hps1] at q; cases q)]
        exact g.sub a o q
      · rcases g.new a q with z | z
        · exact .inl z
        · by_cases y : a = p
          · rw [y, upd_same] at z; cases z
          · rw [upd_ne y] at z; exact .inr z
      · have y : a ≠ p := fun y => by rw [y, hp] at q; cases q
        rw [upd_ne y]
        exact g.ext a o (by rw [upd_ne y]; exact q) n
      · have y : a ≠ p := fun y => by rw [y] at q; exact q hp
        rw [upd_ne y]
        exact g.th a (by rw [upd_ne y]; exact q)
      · rcases q with q | q
        · cases q
          exact .inr hp
        · rcases g.wn a (.inr q) with y | y
          · exact .inl y
          · by_cases e : a = p
            · rw [e]; exact .inr hp
            · rw [upd_ne e] at y; exact .inr y
      · refine ⟨fun q e => ?_, W2.keep g.rel.2.1 (Same.refl _) (fun _ _ z => z) fun a q => ?_, fun a q z => ?_⟩
        · cases e
          exact ⟨hps1, L, 0, ns, upd_same, hL, by decide⟩
        · rw [upd_ne (fun y => by subst y; exact np1 (.inr q))]
        · cases q
          exact np1 (.inr z)
    exact k.nx _ (some p, s1b) Hs1 _ _ (hq p fun z => np1 (.inr z)) g.fz ((S.step gC).set (.raw _))
end Dv

set_option Elab.async false
set_option linter.all false
set_option maxRecDepth 100000
/-! A disk: its deeds and what they make of it. -/
namespace Bg
open PySem L2 Dv
inductive Deed where
  | page (k : Int) (l : List Nat)
  | log (l : List Nat)
  | root (i : Nat) (l : List Nat)
  | free (k : Int)
  | keep (m : Nat)
def Deed.d : Deed → D
  | .page k l => .tup [.str "page", .int k, lineD l]
  | .log l => .tup [.str "log", lineD l]
  | .root i l => .tup [.str "root", .int (i : Nat), lineD l]
  | .free k => .tup [.str "free", .tup [.int k]]
  | .keep m => .tup [.str "keep", .int (m : Nat)]
abbrev Pgs := List (Int × List Nat)
def putP (ps : Pgs) (k : Int) (l : List Nat) : Pgs := if (ps.any fun p => decide (p.1 = k)) = true then ps.map (fun p => if p.1 = k then (p.1, l) else p) else ps ++ [(k, l)]
def dropP (ps : Pgs) (k : Int) : Pgs := ps.filter fun p => decide (p.1 ≠ k)
def getP (ps : Pgs) (k : Int) : Option (List Nat) := (ps.find? fun p => decide (p.1 = k)).map (·.2)
def pk (p : Int × List Nat) : Key × D := (.inl p.1, lineD p.2)
theorem inl_eq (a b : Int) : ((Sum.inl a : Key) = .inl b) = (a = b) := propext ⟨fun h => Sum.inl.inj h, fun h => by rw [h]⟩
theorem valD_pk (ps : Pgs) (k : Int) : valD (ps.map pk) (.inl k) = (getP ps k).map lineD := by
  induction ps with
  | nil => rfl
  | cons p ps ih =>
    rw [List.map_cons, valD_cons, ih]
    unfold getP
    rw [List.find?_cons]
    show (if (Sum.inl p.1 : Key) = .inl k then _ else _) = _
    by_cases h : p.1 = k
    · rw [if_pos (by rw [h]), decide_eq_true h]
      rfl
    · rw [if_neg (fun z => h (Sum.inl.inj z)), decide_eq_false h]
theorem any_pk (ps : Pgs) (k : Int) : ((ps.map pk).any fun kv => decide (kv.1 = .inl k)) = ps.any fun p => decide (p.1 = k) := by
  rw [List.any_map]
  congr 1
  funext p
  show decide ((Sum.inl p.1 : Key) = .inl k) = _
  rw [decide_eq_decide, inl_eq]
theorem putD_pk (ps : Pgs) (k : Int) (l : List Nat) : putD (ps.map pk) (.inl k) (lineD l) = (putP ps k l).map pk := by
  unfold putD putP
  rw [any_pk]
  split
  · rw [List.map_map, List.map_map]
    refine List.map_congr_left fun p _ => ?_
    show (if (Sum.inl p.1 : Key) = .inl k then ((pk p).1, lineD l) else pk p) = pk (if p.1 = k then (p.1, l) else p)
    by_cases h : p.1 = k
    · rw [if_pos (by rw [h]), if_pos h]
      rfl
    · rw [if_neg (fun z => h (Sum.inl.inj z)), if_neg h]
  · rw [List.map_append]
    rfl
theorem dropD_pk (ps : Pgs) (k : Int) : dropD (ps.map pk) (.inl k) = (dropP ps k).map pk := by
  unfold dropD dropP
  rw [List.filter_map]
  congr 1
  refine List.filter_congr fun p _ => ?_
  show decide ((Sum.inl p.1 : Key) ≠ .inl k) = _
  rw [decide_eq_decide, ne_eq, ne_eq, inl_eq]
theorem getP_none {ps : Pgs} {k : Int} (h : getP ps k = none) : dropP ps k = ps := by
  unfold dropP
  rw [List.filter_eq_self]
  intro p hp
  rw [decide_eq_true_eq]
  intro e
  unfold getP at h
  rw [Option.map_eq_none_iff, List.find?_eq_none] at h
  have := h p hp
  simp [e] at this
theorem putP_keys (ps : Pgs) (k : Int) (l : List Nat) : (putP ps k l).map (·.1) = if k ∈ ps.map (·.1) then ps.map (·.1) else ps.map (·.1) ++ [k] := by
  unfold putP
  by_cases h : (ps.any fun p => decide (p.1 = k)) = true
  · rw [if_pos h, if_pos]
    · rw [List.map_map]
      refine List.map_congr_left fun p _ => ?_
      show (if p.1 = k then (p.1, l) else p).1 = p.1
      split <;> rfl
    · rw [List.any_eq_true] at h
      obtain ⟨p, hp, e⟩ := h
      exact List.mem_map.mpr ⟨p, hp, by simpa using e⟩
  · rw [if_neg h, if_neg]
    · simp
    · intro z
      obtain ⟨p, hp, e⟩ := List.mem_map.mp z
      exact h (List.any_eq_true.mpr ⟨p, hp, by simpa using e⟩)
theorem putP_nodup {ps : Pgs} (h : (ps.map (·.1)).Nodup) (k : Int) (l : List Nat) : ((putP ps k l).map (·.1)).Nodup := by
  rw [putP_keys]
  split
  · exact h
  · rename_i g
    exact List.nodup_append.mpr ⟨h, by simp, fun a ha b hb e => g (by rw [List.mem_singleton.mp hb] at e; rw [← e]; exact ha)⟩
theorem dropP_nodup {ps : Pgs} (h : (ps.map (·.1)).Nodup) (k : Int) : ((dropP ps k).map (·.1)).Nodup := h.sublist ((List.filter_sublist).map _)
/-- a disk's state -/
structure Dsk where
  pages : Pgs
  log : List Nat
  roots : List (List Nat)
def Dsk.ini : Dsk := ⟨[], [], [[], []]⟩
def Dsk.app (d : Dsk) : Deed → Dsk
  | .page k l => { d with pages := putP d.pages k l }
  | .log l => { d with log := d.log ++ l }
  | .root i l => { d with roots := d.roots.set i l }
  | .free k => { d with pages := dropP d.pages k }
  | .keep m => { d with log := d.log.take m }
def stD (dl : List Deed) : Dsk := dl.foldl Dsk.app Dsk.ini
theorem stD_snoc (dl : List Deed) (x : Deed) : stD (dl ++ [x]) = (stD dl).app x := by
  unfold stD
  rw [List.foldl_append]
  rfl
/-- where a disk stands -/
structure DA where
  a : Addr
  l : Addr
  r : Addr
  n : Addr
structure DiskAt (C : Addr) (s : Cs) (A : DA) (dl : List Deed) : Prop where
  o : s A.a = some (.ins C [("lines", .raw (.ref A.l)), ("logged", lineD (stD dl).log), ("roots", .raw (.ref A.r)), ("done", .raw (.ref A.n))])
  l : s A.l = some (.dct ((stD dl).pages.map pk))
  r : s A.r = some (.lst ((stD dl).roots.map lineD))
  n : s A.n = some (.lst (dl.map Deed.d))
  ne : A.r ≠ A.n
theorem cell_ne {s : Cs} {a b : Addr} {u v : Cell} (h1 : s a = some u) (h2 : s b = some v) (h : u ≠ v) : a ≠ b := fun e => by
  subst e
  rw [h1] at h2
  exact h (Option.some.inj h2)
section
variable {C : Addr} {s s' : Cs} {A : DA} {dl : List Deed}
theorem DiskAt.al (h : DiskAt C s A dl) : A.a ≠ A.l := cell_ne h.o h.l fun z => nomatch z
theorem DiskAt.ar (h : DiskAt C s A dl) : A.a ≠ A.r := cell_ne h.o h.r fun z => nomatch z
theorem DiskAt.an (h : DiskAt C s A dl) : A.a ≠ A.n := cell_ne h.o h.n fun z => nomatch z
theorem DiskAt.lr (h : DiskAt C s A dl) : A.l ≠ A.r := cell_ne h.l h.r fun z => nomatch z
theorem DiskAt.ln (h : DiskAt C s A dl) : A.l ≠ A.n := cell_ne h.l h.n fun z => nomatch z
/-- not of the disk -/
def DA.off (A : DA) (b : Addr) : Prop := b ≠ A.a ∧ b ≠ A.l ∧ b ≠ A.r ∧ b ≠ A.n
/-- what stands elsewhere stays -/
def FrD (A : DA) (s s' : Cs) : Prop := ∀ b, A.off b → s' b = s b
theorem DiskAt.keep (h : DiskAt C s A dl) (k : ∀ b, b = A.a ∨ b = A.l ∨ b = A.r ∨ b = A.n → s' b = s b) : DiskAt C s' A dl :=
  ⟨(k _ (.inl rfl)).trans h.o, (k _ (.inr (.inl rfl))).trans h.l, (k _ (.inr (.inr (.inl rfl)))).trans h.r, (k _ (.inr (.inr (.inr rfl)))).trans h.n, h.ne⟩
end
def ioC (C : Addr) (A : DA) (d : Dsk) : Cell := .ins C [("lines", .raw (.ref A.l)), ("logged", lineD d.log), ("roots", .raw (.ref A.r)), ("done", .raw (.ref A.n))]
end Bg
namespace Bg
open PySem L2 Dv
def Deed.sm : Deed → Prop
  | .page _ l => l.length ≤ 1000
  | .log l => l.length ≤ 1000
  | .root i l => l.length ≤ 1000 ∧ i < 2
  | .free _ => True
  | .keep _ => True
def okL (dl : List Deed) : Prop := dl.length ≤ 1000 ∧ ∀ x ∈ dl, x.sm
theorem putP_len (ps : Pgs) (k : Int) (l : List Nat) : (putP ps k l).length ≤ ps.length + 1 := by
  unfold putP
  split <;> simp
theorem app_facts (x : Deed) (hx : x.sm) (d : Dsk) : (d.app x).pages.length ≤ d.pages.length + 1 ∧ (d.app x).log.length ≤ d.log.length + 1000 ∧ (d.app x).roots.length = d.roots.length ∧ ((d.pages.map (·.1)).Nodup → ((d.app x).pages.map (·.1)).Nodup) := by
  cases x with
  | page k l => exact ⟨putP_len _ _ _, Nat.le_add_right _ _, rfl, fun h => putP_nodup h k l⟩
  | log l =>
    refine ⟨Nat.le_add_right _ _, ?_, rfl, fun h => h⟩
    show (d.log ++ l).length ≤ _
    rw [List.length_append]
    exact Nat.add_le_add_left hx _
  | root i l => exact ⟨Nat.le_add_right _ _, Nat.le_add_right _ _, List.length_set, fun h => h⟩
  | free k => exact ⟨Nat.le_trans (List.length_filter_le _ _) (Nat.le_add_right _ _), Nat.le_add_right _ _, rfl, fun h => dropP_nodup h k⟩
  | keep m =>
    refine ⟨Nat.le_add_right _ _, ?_, rfl, fun h => h⟩
    show (d.log.take m).length ≤ _
    rw [List.length_take]
    omega
theorem st_facts (dl : List Deed) (h : ∀ x ∈ dl, x.sm) : (stD dl).pages.length ≤ dl.length ∧ (stD dl).log.length ≤ dl.length * 1000 ∧ (stD dl).roots.length = 2 ∧ ((stD dl).pages.map (·.1)).Nodup := by
  have go : ∀ (dl : List Deed) (d : Dsk), (∀ x ∈ dl, x.sm) → (dl.foldl Dsk.app d).pages.length ≤ d.pages.length + dl.length ∧ (dl.foldl Dsk.app d).log.length ≤ d.log.length + dl.length * 1000 ∧ (dl.foldl Dsk.app d).roots.length = d.roots.length ∧ ((d.pages.map (·.1)).Nodup → ((dl.foldl Dsk.app d).pages.map (·.1)).Nodup) := by
    intro dl
    induction dl with
    | nil => exact fun d _ => ⟨Nat.le_refl _, by simp, rfl, fun h => h⟩
    | cons x dl ih =>
      intro d hd
      obtain ⟨a1, a2, a3, a4⟩ := app_facts x (hd x (by simp)) d
      obtain ⟨b1, b2, b3, b4⟩ := ih (d.app x) fun y hy => hd y (by simp [hy])
      rw [List.foldl_cons, List.length_cons]
      exact ⟨by omega, by omega, by rw [b3, a3], fun h => b4 (a4 h)⟩
  obtain ⟨a1, a2, a3, a4⟩ := go dl Dsk.ini h
  exact ⟨Nat.le_trans a1 (by simp [Dsk.ini]), Nat.le_trans a2 (by simp [Dsk.ini]), a3, a4 (by simp [Dsk.ini])⟩
theorem okL_snoc {dl : List Deed} {x : Deed} (h : okL (dl ++ [x])) : okL dl ∧ x.sm := by
  obtain ⟨h1, h2⟩ := h
  rw [List.length_append] at h1
  exact ⟨⟨by omega, fun y hy => h2 y (by simp [hy])⟩, h2 x (by simp)⟩
end Bg

set_option Elab.async false
set_option linter.all false
set_option maxRecDepth 100000
/-! A room of frames over a disk. -/
namespace Bg
open PySem L2 Dv
theorem getP_cons (p : Int × List Nat) (ps : Pgs) (k : Int) : getP (p :: ps) k = if p.1 = k then some p.2 else getP ps k := by
  unfold getP
  rw [List.find?_cons]
  by_cases h : p.1 = k
  · rw [if_pos h, decide_eq_true h]; rfl
  · rw [if_neg h, decide_eq_false h]
theorem getP_some (ps : Pgs) (k : Int) : (getP ps k).isSome = true ↔ k ∈ ps.map (·.1) := by
  induction ps with
  | nil => simp [getP]
  | cons p ps ih =>
    rw [getP_cons, List.map_cons, List.mem_cons]
    by_cases h : p.1 = k
    · rw [if_pos h]
      simp [h]
    · rw [if_neg h, ih]
      constructor
      · exact fun z => .inr z
      · intro z
        rcases z with z | z
        · exact absurd z.symm h
        · exact z
theorem getP_put (ps : Pgs) (k j : Int) (l : List Nat) : getP (putP ps k l) j = if k = j then some l else getP ps j := by
  unfold putP
  by_cases h : (ps.any fun p => decide (p.1 = k)) = true
  · rw [if_pos h]
    have hk : ∃ p ∈ ps, p.1 = k := by
      obtain ⟨p, hp, e⟩ := List.any_eq_true.mp h
      exact ⟨p, hp, by simpa using e⟩
    clear h
    induction ps with
    | nil => obtain ⟨p, hp, _⟩ := hk; cases hp
    | cons p ps ih =>
      rw [List.map_cons, getP_cons, getP_cons]
      by_cases hp : p.1 = k
      · rw [if_pos hp]
        by_cases hj : k = j
        · rw [if_pos hj, if_pos (by rw [← hj]; exact hp)]
        · rw [if_neg hj, if_neg (by rw [hp]; exact hj), if_neg (by rw [hp]; exact hj)]
          by_cases hx : ∃ p ∈ ps, p.1 = k
          · rw [ih hx, if_neg hj]
          · have : ps.map (fun p => if p.1 = k then (p.1, l) else p) = ps := by
              conv => rhs; rw [← List.map_id ps]
              exact List.map_congr_left fun q hq => if_neg fun z => hx ⟨q, hq, z⟩
            rw [this]
      · rw [if_neg hp]
        obtain ⟨q, hq, e⟩ := hk
        have hq2 : q ∈ ps := by
          rcases List.mem_cons.mp hq with z | z
          · exact absurd (by rw [← z]; exact e) hp
          · exact z
        rw [ih ⟨q, hq2, e⟩]
        by_cases hj : k = j
        · rw [if_pos hj, if_neg (by rw [← hj]; exact hp), if_pos hj]
        · rw [if_neg hj, if_neg hj]
  · rw [if_neg h]
    have hn : getP ps k = none := by
      cases e : getP ps k with
      | none => rfl
      | some v =>
        have := (getP_some ps k).mp (by rw [e]; rfl)
        obtain ⟨p, hp, e⟩ := List.mem_map.mp this
        exact absurd (List.any_eq_true.mpr ⟨p, hp, by simpa using e⟩) h
    clear h
    induction ps with
    | nil =>
      show getP [(k, l)] j = _
      rw [getP_cons]
    | cons p ps ih =>
      rw [getP_cons] at hn
      split at hn
      · cases hn
      · rename_i hp
        rw [List.cons_append, getP_cons, getP_cons, ih hn]
        by_cases hj : k = j
        · rw [if_pos hj, if_neg (by rw [← hj]; exact hp), if_pos hj]
        · rw [if_neg hj, if_neg hj]
theorem getP_drop (ps : Pgs) (k j : Int) : getP (dropP ps k) j = if k = j then none else getP ps j := by
  induction ps with
  | nil => show none = _; split <;> rfl
  | cons p ps ih =>
    have e : dropP (p :: ps) k = if p.1 = k then dropP ps k else p :: dropP ps k := by
      unfold dropP
      rw [List.filter_cons]
      by_cases h : p.1 = k
      · rw [if_pos h, if_neg (by simp [h])]
      · rw [if_neg h, if_pos (by simp [h])]
    rw [e]
    by_cases h : p.1 = k
    · rw [if_pos h, ih, getP_cons]
      by_cases hj : k = j
      · rw [if_pos hj, if_pos hj]
      · rw [if_neg hj, if_neg hj, if_neg (by rw [h]; exact hj)]
    · rw [if_neg h, getP_cons, ih, getP_cons]
      by_cases hj : k = j
      · rw [if_pos hj, if_pos hj, if_neg (by rw [← hj]; exact h)]
      · rw [if_neg hj, if_neg hj]
structure Rm where
  disk : Addr
  frames : Int
  first : Int
  lines : Pgs
  order : List Int
  fresh : List Int
  reads : Int
  writes : Int
structure RA where
  a : Addr
  l : Addr
  o : Addr
  f : Addr
def RA.off (B : RA) (b : Addr) : Prop := b ≠ B.a ∧ b ≠ B.l ∧ b ≠ B.o ∧ b ≠ B.f
def rmF (B : RA) (rm : Rm) : List (Str × D) := [("disk", .raw (.ref rm.disk)), ("frames", .int rm.frames), ("first", .int rm.first), ("lines", .raw (.ref B.l)), ("order", .raw (.ref B.o)), ("fresh", .raw (.ref B.f)), ("reads", .int rm.reads), ("writes", .int rm.writes)]
structure RoomAt (C : Addr) (s : Cs) (B : RA) (rm : Rm) : Prop where
  i : s B.a = some (.ins C (rmF B rm))
  l : s B.l = some (.dct (rm.lines.map pk))
  o : s B.o = some (.lst (rm.order.map .int))
  f : s B.f = some (.lst (rm.fresh.map .int))
  ne : B.o ≠ B.f
structure RD (CD CR : Addr) (s : Cs) (A : DA) (B : RA) (dl : List Deed) (rm : Rm) : Prop where
  d : DiskAt CD s A dl
  r : RoomAt CR s B rm
  k : rm.disk = A.a
  oa : A.off B.a
  ol : A.off B.l
  oo : A.off B.o
  of : A.off B.f
def FrR (A : DA) (B : RA) (s s' : Cs) : Prop := ∀ b, A.off b → B.off b → s' b = s b
section
variable {CD CR : Addr} {s s' s2 : Cs} {A : DA} {B : RA} {dl : List Deed} {rm : Rm}
theorem FrR.refl : FrR A B s s := fun _ _ _ => rfl
theorem FrR.trans (a : FrR A B s s') (b : FrR A B s' s2) : FrR A B s s2 := fun x h1 h2 => (b x h1 h2).trans (a x h1 h2)
theorem FrD.r (a : FrD A s s') : FrR A B s s' := fun x h1 _ => a x h1
theorem RoomAt.al (h : RoomAt CR s B rm) : B.a ≠ B.l := cell_ne h.i h.l fun z => nomatch z
theorem RoomAt.ao (h : RoomAt CR s B rm) : B.a ≠ B.o := cell_ne h.i h.o fun z => nomatch z
theorem RoomAt.af (h : RoomAt CR s B rm) : B.a ≠ B.f := cell_ne h.i h.f fun z => nomatch z
theorem RoomAt.lo (h : RoomAt CR s B rm) : B.l ≠ B.o := cell_ne h.l h.o fun z => nomatch z
theorem RoomAt.lf (h : RoomAt CR s B rm) : B.l ≠ B.f := cell_ne h.l h.f fun z => nomatch z
theorem DiskAt.upd {a : Addr} {u : Cell} (h : DiskAt CD s A dl) (o : A.off a) : DiskAt CD (updS s a u) A dl := h.keep fun b hb => updS_ne fun e => by
  subst e
  obtain ⟨h1, h2, h3, h4⟩ := o
  rcases hb with e | e | e | e
  · exact h1 e
  · exact h2 e
  · exact h3 e
  · exact h4 e
theorem fr_a {u : Cell} : FrR A B s (updS s B.a u) := fun b _ h => updS_ne h.1
theorem fr_l {u : Cell} : FrR A B s (updS s B.l u) := fun b _ h => updS_ne h.2.1
theorem fr_o {u : Cell} : FrR A B s (updS s B.o u) := fun b _ h => updS_ne h.2.2.1
theorem fr_f {u : Cell} : FrR A B s (updS s B.f u) := fun b _ h => updS_ne h.2.2.2
theorem RD.setL (h : RD CD CR s A B dl rm) (ps : Pgs) : RD CD CR (updS s B.l (.dct (ps.map pk))) A B dl { rm with lines := ps } :=
  ⟨h.d.upd h.ol, ⟨(updS_ne h.r.al).trans h.r.i, updS_same, (updS_ne h.r.lo.symm).trans h.r.o, (updS_ne h.r.lf.symm).trans h.r.f, h.r.ne⟩, h.k, h.oa, h.ol, h.oo, h.of⟩
theorem RD.setO (h : RD CD CR s A B dl rm) (os : List Int) : RD CD CR (updS s B.o (.lst (os.map .int))) A B dl { rm with order := os } :=
  ⟨h.d.upd h.oo, ⟨(updS_ne h.r.ao).trans h.r.i, (updS_ne h.r.lo).trans h.r.l, updS_same, (updS_ne h.r.ne.symm).trans h.r.f, h.r.ne⟩, h.k, h.oa, h.ol, h.oo, h.of⟩
theorem RD.setF (h : RD CD CR s A B dl rm) (os : List Int) : RD CD CR (updS s B.f (.lst (os.map .int))) A B dl { rm with fresh := os } :=
  ⟨h.d.upd h.of, ⟨(updS_ne h.r.af).trans h.r.i, (updS_ne h.r.lf).trans h.r.l, (updS_ne h.r.ne).trans h.r.o, updS_same, h.r.ne⟩, h.k, h.oa, h.ol, h.oo, h.of⟩
theorem RD.setA (h : RD CD CR s A B dl rm) (rm' : Rm) (e : rm'.disk = rm.disk) (e1 : rm'.lines = rm.lines) (e2 : rm'.order = rm.order) (e3 : rm'.fresh = rm.fresh) : RD CD CR (updS s B.a (.ins CR (rmF B rm'))) A B dl rm' :=
  ⟨h.d.upd h.oa, ⟨updS_same, by rw [updS_ne h.r.al.symm, e1]; exact h.r.l, by rw [updS_ne h.r.ao.symm, e2]; exact h.r.o, by rw [updS_ne h.r.af.symm, e3]; exact h.r.f, h.r.ne⟩, e.trans h.k, h.oa, h.ol, h.oo, h.of⟩
theorem RD.deed (h : RD CD CR s A B dl rm) {dl' : List Deed} (hd : DiskAt CD s' A dl') (f : FrD A s s') : RD CD CR s' A B dl' rm :=
  ⟨hd, ⟨(f _ h.oa).trans h.r.i, (f _ h.ol).trans h.r.l, (f _ h.oo).trans h.r.o, (f _ h.of).trans h.r.f, h.r.ne⟩, h.k, h.oa, h.ol, h.oo, h.of⟩
end
def lnP (ps : Pgs) (k : Int) : List Nat := (getP ps k).getD []
def saveM (dl : List Deed) (rm : Rm) (page : Int) : List Deed × Rm := (dl ++ [.page page (lnP rm.lines page)], { rm with fresh := rm.fresh.erase page, writes := rm.writes + 1 })
def keep1 (rm : Rm) (page : Int) (line : List Nat) : Rm := { rm with order := (if (getP rm.lines page).isSome = true then rm.order.erase page else rm.order) ++ [page], lines := putP rm.lines page line }
def evict (dl : List Deed) (rm : Rm) : List Deed × Rm :=
  if rm.frames < (rm.order.length : Int) then
    match rm.order with
    | gone :: rest =>
      let q := if gone ∈ rm.fresh then saveM dl rm gone else (dl, rm)
      (q.1, { q.2 with order := rest, lines := dropP q.2.lines gone })
    | [] => (dl, rm)
  else (dl, rm)
/-- what a room keeps -/
structure RI (rm : Rm) : Prop where
  k : ∀ q, q ∈ rm.order ↔ (getP rm.lines q).isSome = true
  no : rm.order.Nodup
  nf : rm.fresh.Nodup
  lo : rm.order.length ≤ 500
  ll : rm.lines.length ≤ 500
  lf : rm.fresh.length ≤ 500
  ln : ∀ q l, getP rm.lines q = some l → l.length ≤ 1000
/-- remove, in, of lists of ints -/
theorem eqD_ints (a b : Int) : eqD (.int a) (.int b) = decide (a = b) := by simp [eqD, D.py, PyData.eqv]; rfl
theorem inD_ints (p : Int) (xs : List Int) : inD (.int p) (xs.map .int) = decide (p ∈ xs) := by
  induction xs with
  | nil => rfl
  | cons x xs ih =>
    have e : inD (.int p) ((x :: xs).map .int) = (eqD (.int x) (.int p) || inD (.int p) (xs.map .int)) := rfl
    rw [e, ih, eqD_ints]
    by_cases h : x = p
    · simp [h]
    · simp [h]
      intro z
      exact absurd z.symm h
theorem remD_ints (p : Int) (xs : List Int) : remD (.int p) (xs.map .int) = (xs.erase p).map .int := by
  unfold remD Dv.placeD
  induction xs with
  | nil => rfl
  | cons s rs ih =>
    rw [List.map_cons, List.findIdx_cons, eqD_ints, List.erase_cons]
    by_cases h : s = p
    · simp [h]
    · simp only [h, decide_false, cond_false, List.eraseIdx_cons_succ, List.map_cons]
      rw [ih]
      have : (s == p) = false := by simpa using h
      rw [this]
      rfl
end Bg

set_option Elab.async false
set_option linter.all false
set_option maxRecDepth 100000
/-! What a law makes of deeds. -/
namespace Bg
open PySem L2 Dv
theorem putD_new (kvs : List (Key × D)) (k : Key) (v : D) (h : k ∉ kvs.map (·.1)) : putD kvs k v = kvs ++ [(k, v)] := by
  unfold putD
  rw [if_neg]
  intro z
  obtain ⟨p, hp, e⟩ := List.any_eq_true.mp z
  exact h (List.mem_map.mpr ⟨p, hp, by simpa using e⟩)
theorem mergeD_nodup : ∀ (more acc : List (Key × D)), ((acc ++ more).map (·.1)).Nodup → mergeD acc more = acc ++ more
  | [], acc, _ => (List.append_nil acc).symm
  | p :: more, acc, h => by
    show mergeD (putD acc p.1 p.2) more = _
    have hn : p.1 ∉ acc.map (·.1) := fun z => by
      rw [List.map_append, List.map_cons, List.nodup_append] at h
      exact h.2.2 _ z _ (by simp) rfl
    rw [putD_new _ _ _ hn, mergeD_nodup more (acc ++ [(p.1, p.2)]) (by simpa using h)]
    simp
theorem pk_keys (ps : Pgs) : (ps.map pk).map (·.1) = (ps.map (·.1)).map Sum.inl := by
  rw [List.map_map, List.map_map]
  rfl
theorem pk_nodup {ps : Pgs} (h : (ps.map (·.1)).Nodup) : ((ps.map pk).map (·.1)).Nodup := by
  rw [pk_keys]
  exact List.Pairwise.map _ (fun _ _ z y => z (Sum.inl.inj y)) h
theorem merge_pk {ps : Pgs} (h : (ps.map (·.1)).Nodup) : mergeD [] (ps.map pk) = ps.map pk := by
  rw [mergeD_nodup _ _ (by simpa using pk_nodup h), List.nil_append]
theorem getP_mem {ps : Pgs} (h : (ps.map (·.1)).Nodup) : ∀ p ∈ ps, getP ps p.1 = some p.2 := by
  induction ps with
  | nil => intro p hp; cases hp
  | cons q ps ih =>
    rw [List.map_cons, List.nodup_cons] at h
    intro p hp
    rw [getP_cons]
    rcases List.mem_cons.mp hp with z | z
    · rw [z, if_pos rfl]
    · rw [if_neg (fun y => h.1 (by rw [y]; exact List.mem_map.mpr ⟨p, z, rfl⟩)), ih h.2 p z]
/-- deeds as a law hands them: a list that changes, or one that does not -/
def DeedsAt (s : Cs) (d : D) (dl : List Deed) : Prop := d = .lst (dl.map Deed.d) ∨ ∃ a, d = .raw (.ref a) ∧ s a = some (.lst (dl.map Deed.d))
/-- what stood stays -/
def Kp (s s' : Cs) : Prop := ∀ b, s b ≠ none → s' b = s b
theorem Kp.refl (s : Cs) : Kp s s := fun _ _ => rfl
theorem Kp.trans {s s' s2 : Cs} (a : Kp s s') (b : Kp s' s2) : Kp s s2 := fun x h => (b x (by rw [a x h]; exact h)).trans (a x h)
theorem Kp.at {s s' : Cs} {a : Addr} {u : Cell} (k : Kp s s') (h : s a = some u) : s' a = some u := (k a (by rw [h]; exact fun z => nomatch z)).trans h
theorem Kp.upd {s s' : Cs} {a : Addr} {u : Cell} (k : Kp s s') (h : s a = none) : Kp s (updS s' a u) := fun b hb => by
  rw [updS_ne (fun e => hb (by rw [e]; exact h))]
  exact k b hb
theorem Kp.un {s s' : Cs} {a : Addr} (k : Kp s s') (h : s' a = none) : s a = none := by
  cases e : s a with
  | none => rfl
  | some u => rw [k.at e] at h; cases h
theorem DeedsAt.kp {s s' : Cs} {d : D} {dl : List Deed} (h : DeedsAt s d dl) (k : Kp s s') : DeedsAt s' d dl := by
  rcases h with h | ⟨a, h1, h2⟩
  · exact .inl h
  · exact .inr ⟨a, h1, k.at h2⟩
theorem DiskAt.kp {C : Addr} {s s' : Cs} {A : DA} {dl : List Deed} (h : DiskAt C s A dl) (k : Kp s s') : DiskAt C s' A dl := ⟨k.at h.o, k.at h.l, k.at h.r, k.at h.n, h.ne⟩
theorem kAny_deeds {c : Cn} {te : TD (Wc c)} {ρ : Dv.Env} {s s1 : Cs} {d : D} {dl : List Deed} {Q : List D → (Cs → Prop) → Cs → Prop} (he : ∀ Q' : D → Cs → Prop, Q' d s1 → te ρ s1 Q') (hd : DeedsAt s d dl) (k : Kp s s1)
    (h : ∀ ok : Cs → Prop, (∀ s2, Kp s s2 → ok s2) → Q (dl.map Deed.d) ok s1) : kAny (Sub.self c) te ρ s1 Q := by
  refine he _ ⟨dl.map Deed.d, ?_⟩
  rcases hd with rfl | ⟨a, rfl, ha⟩
  · exact .inl ⟨rfl, fun _ => h _ fun _ _ => trivial⟩
  · exact .inr ⟨a, rfl, k.at ha, fun _ => h _ fun _ k2 => k2.at ha⟩
theorem log_len {dl : List Deed} (h : okL dl) : (stD dl).log.length ≤ 1000000 := by
  have := (st_facts dl h.2).2.1
  have := h.1
  omega
/-- what is left of a dict when one key is cut -/
theorem free_items {ps : Pgs} (q : Int) : ((ps.filter fun x => decide (x.1 ≠ q)).map fun x => D.tup [.int x.1, lineD x.2]) = ((dropP ps q).map pk).map keyPair := by
  rw [List.map_map]
  rfl
end Bg

set_option Elab.async false
set_option linter.all false
set_option maxRecDepth 100000
/-! What a law knows of a room. -/
namespace Bg
open PySem L2 Dv
theorem dropP_len (ps : Pgs) (k : Int) : (dropP ps k).length ≤ ps.length := List.length_filter_le _ _
theorem RD.upd {CD CR : Addr} {s : Cs} {A : DA} {B : RA} {dl : List Deed} {rm : Rm} {a : Addr} {u : Cell} (h : RD CD CR s A B dl rm) (o1 : A.off a) (o2 : B.off a) : RD CD CR (updS s a u) A B dl rm :=
  ⟨h.d.upd o1, ⟨(updS_ne o2.1.symm).trans h.r.i, (updS_ne o2.2.1.symm).trans h.r.l, (updS_ne o2.2.2.1.symm).trans h.r.o, (updS_ne o2.2.2.2.symm).trans h.r.f, h.r.ne⟩, h.k, h.oa, h.ol, h.oo, h.of⟩
/-- a page asked for: the line, and what the room is before it is kept -/
def getM (dl : List Deed) (rm : Rm) (page : Int) : Option (List Nat × Rm) := match getP rm.lines page with
  | some l => some (l, rm)
  | none => (getP (stD dl).pages page).map fun l => (l, { rm with reads := rm.reads + 1 })
theorem erase_filter {xs : List Int} (h : xs.Nodup) (a : Int) : xs.erase a = xs.filter fun x => decide (x ≠ a) := by
  rw [h.erase_eq_filter]
  refine List.filter_congr fun x _ => ?_
  by_cases z : x = a <;> simp [z]
theorem filter_out {xs : List Int} {a : Int} (h : a ∉ xs) : (xs.filter fun x => decide (x ≠ a)) = xs := by
  rw [List.filter_eq_self]
  intro x hx
  rw [decide_eq_true_eq]
  exact fun e => h (by rw [← e]; exact hx)
/-- room, disk and the law's own: fr frames, fi the first number, t turns, at most b in the room -/
structure LI (fr fi : Int) (t : Nat) (b : Int) (dl : List Deed) (rm : Rm) (ls : Pgs) : Prop where
  hfr : rm.frames = fr
  hfi : rm.first = fi + (ls.length : Nat)
  keys : ls.map (·.1) = (List.range ls.length).map fun j => fi + ((j : Nat) : Int)
  k : ∀ q, q ∈ rm.order ↔ (getP rm.lines q).isSome = true
  no : rm.order.Nodup
  nf : rm.fresh.Nodup
  fo : ∀ q ∈ rm.fresh, q ∈ rm.order
  lk : ∀ q l, getP rm.lines q = some l → getP ls q = some l
  dk : ∀ q, getP (stD dl).pages q = if q ∈ rm.fresh then none else getP ls q
  ok : okL dl
  cnt : dl.length + rm.fresh.length ≤ ls.length
  lt : ls.length ≤ t
  rt : rm.lines.length ≤ t
  oc : (rm.order.length : Int) ≤ b
  l3 : ∀ q l, getP ls q = some l → l.length ≤ 3
section
variable {fr fi : Int} {t : Nat} {b : Int} {dl : List Deed} {rm : Rm} {ls : Pgs}
theorem LI.mem (h : LI fr fi t b dl rm ls) (q : Int) : q ∈ ls.map (·.1) ↔ fi ≤ q ∧ q < rm.first := by
  rw [h.keys, h.hfi, List.mem_map]
  constructor
  · rintro ⟨j, hj, rfl⟩
    have := List.mem_range.mp hj
    omega
  · rintro ⟨h1, h2⟩
    exact ⟨(q - fi).toNat, List.mem_range.mpr (by omega), by omega⟩
theorem LI.nodup (h : LI fr fi t b dl rm ls) : (ls.map (·.1)).Nodup := by
  rw [h.keys]
  exact List.Pairwise.map _ (fun a b z y => z (by omega)) List.nodup_range
theorem LI.new (h : LI fr fi t b dl rm ls) : getP ls rm.first = none := by
  cases e : getP ls rm.first with
  | none => rfl
  | some l =>
    have := (h.mem rm.first).mp ((getP_some ls rm.first).mp (by rw [e]; rfl))
    omega
theorem LI.newO (h : LI fr fi t b dl rm ls) : rm.first ∉ rm.order := fun z => by
  obtain ⟨l, e⟩ := Option.isSome_iff_exists.mp ((h.k _).mp z)
  have := h.lk _ _ e
  rw [h.new] at this
  cases this
theorem LI.newF (h : LI fr fi t b dl rm ls) : rm.first ∉ rm.fresh := fun z => h.newO (h.fo _ z)
theorem LI.ri (h : LI fr fi t b dl rm ls) (ht : t ≤ 400) (hb : b ≤ 400) : RI rm :=
  ⟨h.k, h.no, h.nf, by have := h.oc; omega, by have := h.rt; omega, by have := h.cnt; have := h.lt; omega, fun q l e => by
    have := h.l3 q l (h.lk q l e)
    omega⟩
theorem LI.riP (h : LI fr fi t b dl rm ls) (ht : t ≤ 400) (hb : b ≤ 400) : RI { rm with first := rm.first + 1, fresh := rm.fresh ++ [rm.first] } :=
  ⟨h.k, h.no, List.nodup_append.mpr ⟨h.nf, by simp, fun a ha c hc e => h.newF (by rw [List.mem_singleton.mp hc] at e; rw [← e]; exact ha)⟩, by have := h.oc; show rm.order.length ≤ _; omega, by have := h.rt; show rm.lines.length ≤ _; omega, by
    have := h.cnt
    have := h.lt
    show (rm.fresh ++ [rm.first]).length ≤ _
    rw [List.length_append, List.length_singleton]
    omega, fun q l e => by
    have := h.l3 q l (h.lk q l e)
    omega⟩
/-- a line is put -/
theorem LI.put (h : LI fr fi t b dl rm ls) {line : List Nat} (hl : line.length ≤ 3) :
    LI fr fi (t + 1) (b + 1) dl (keep1 { rm with first := rm.first + 1, fresh := rm.fresh ++ [rm.first] } rm.first line) (putP ls rm.first line) ∧
    (keep1 { rm with first := rm.first + 1, fresh := rm.fresh ++ [rm.first] } rm.first line).order = rm.order ++ [rm.first] := by
  have hn : getP rm.lines rm.first = none := by
    cases e : getP rm.lines rm.first with
    | none => rfl
    | some l => exact absurd ((h.k _).mpr (by rw [e]; rfl)) h.newO
  have ho : (keep1 { rm with first := rm.first + 1, fresh := rm.fresh ++ [rm.first] } rm.first line).order = rm.order ++ [rm.first] := by
    show (if (getP rm.lines rm.first).isSome = true then rm.order.erase rm.first else rm.order) ++ [rm.first] = _
    rw [hn]
    rfl
  have els : putP ls rm.first line = ls ++ [(rm.first, line)] := by
    unfold putP
    rw [if_neg]
    intro z
    obtain ⟨p, hp, e⟩ := List.any_eq_true.mp z
    have := (h.mem rm.first).mp (List.mem_map.mpr ⟨p, hp, by simpa using e⟩)
    omega
  rw [els]
  refine ⟨⟨h.hfr, ?_, ?_, ?_, ?_, ?_, ?_, ?_, ?_, h.ok, ?_, ?_, ?_, ?_, ?_⟩, ho⟩
  · show rm.first + 1 = _
    have := h.hfi
    rw [List.length_append, List.length_singleton]
    omega
  · rw [List.map_append, h.keys, List.length_append, List.length_singleton, List.range_succ, List.map_append, h.hfi]
    rfl
  · intro q
    rw [ho]
    show _ ↔ (getP (putP rm.lines rm.first line) q).isSome = true
    rw [getP_put, List.mem_append, List.mem_singleton]
    by_cases e : rm.first = q
    · rw [if_pos e]
      exact ⟨fun _ => rfl, fun _ => .inr e.symm⟩
    · rw [if_neg e, ← h.k]
      exact ⟨fun z => z.elim id fun y => absurd y.symm e, .inl⟩
  · rw [ho]
    exact List.nodup_append.mpr ⟨h.no, by simp, fun a ha c hc e => h.newO (by rw [List.mem_singleton.mp hc] at e; rw [← e]; exact ha)⟩
  · exact List.nodup_append.mpr ⟨h.nf, by simp, fun a ha c hc e => h.newF (by rw [List.mem_singleton.mp hc] at e; rw [← e]; exact ha)⟩
  · intro q hq
    rw [ho]
    rcases List.mem_append.mp (show q ∈ rm.fresh ++ [rm.first] from hq) with z | z
    · exact List.mem_append_left _ (h.fo q z)
    · exact List.mem_append_right _ z
  · intro q l e
    have e : getP (putP rm.lines rm.first line) q = some l := e
    rw [← els, getP_put]
    rw [getP_put] at e
    split at e
    · rw [if_pos (by assumption)]; exact e
    · rw [if_neg (by assumption)]; exact h.lk q l e
  · intro q
    show _ = if q ∈ rm.fresh ++ [rm.first] then none else _
    rw [h.dk, ← els, getP_put]
    by_cases e : rm.first = q
    · subst e
      rw [if_neg h.newF, if_pos (by simp), h.new]
    · by_cases z : q ∈ rm.fresh
      · rw [if_pos z, if_pos (by simp [z])]
      · rw [if_neg z, if_neg (by simp [z]; exact fun y => e y.symm), if_neg e]
  · show dl.length + (rm.fresh ++ [rm.first]).length ≤ _
    have := h.cnt
    rw [List.length_append, List.length_append, List.length_singleton, List.length_singleton]
    omega
  · have := h.lt
    rw [List.length_append, List.length_singleton]
    omega
  · have := h.rt
    have := putP_len rm.lines rm.first line
    show (putP rm.lines rm.first line).length ≤ _
    omega
  · have := h.oc
    rw [ho, List.length_append, List.length_singleton]
    push_cast
    omega
  · intro q l e
    rw [← els, getP_put] at e
    split at e
    · cases e; exact hl
    · exact h.l3 q l e
/-- a line is asked for -/
theorem LI.get (h : LI fr fi t b dl rm ls) {q : Int} {l : List Nat} (hq : getP ls q = some l) : ∃ rm', getM dl rm q = some (l, rm') ∧ LI fr fi (t + 1) (b + 1) dl (keep1 rm' q l) ls ∧
    (keep1 rm' q l).order = (rm.order.filter fun x => decide (x ≠ q)) ++ [q] ∧ (keep1 rm' q l).fresh = rm.fresh ∧ (keep1 rm' q l).reads = rm.reads + (if q ∈ rm.order then 0 else 1) ∧ (keep1 rm' q l).writes = rm.writes := by
  have key : ∀ rm' : Rm, rm'.frames = rm.frames → rm'.first = rm.first → rm'.lines = rm.lines → rm'.order = rm.order → rm'.fresh = rm.fresh →
      LI fr fi (t + 1) (b + 1) dl (keep1 rm' q l) ls ∧ (keep1 rm' q l).order = (rm.order.filter fun x => decide (x ≠ q)) ++ [q] := by
    intro rm' e1 e2 e3 e4 e5
    have ho : (keep1 rm' q l).order = (rm.order.filter fun x => decide (x ≠ q)) ++ [q] := by
      show (if (getP rm'.lines q).isSome = true then rm'.order.erase q else rm'.order) ++ [q] = _
      rw [e3, e4]
      split
      · rw [erase_filter h.no]
      · rename_i z
        rw [filter_out fun y => z ((h.k q).mp y)]
    have hl : (keep1 rm' q l).lines = putP rm.lines q l := by rw [← e3]; rfl
    have hf : (keep1 rm' q l).fresh = rm.fresh := e5
    refine ⟨⟨e1.trans h.hfr, e2.trans h.hfi, h.keys, ?_, ?_, by rw [hf]; exact h.nf, ?_, ?_, by rw [hf]; exact h.dk, h.ok, by rw [hf]; exact h.cnt, by have := h.lt; omega, ?_, ?_, h.l3⟩, ho⟩
    · intro p
      rw [ho, hl, getP_put, List.mem_append, List.mem_singleton, List.mem_filter, decide_eq_true_eq]
      by_cases e : q = p
      · rw [if_pos e]
        exact ⟨fun _ => rfl, fun _ => .inr e.symm⟩
      · rw [if_neg e, ← h.k]
        exact ⟨fun z => z.elim (·.1) fun y => absurd y.symm e, fun z => .inl ⟨z, fun y => e y.symm⟩⟩
    · rw [ho]
      refine List.nodup_append.mpr ⟨h.no.filter _, by simp, fun a ha c hc e => ?_⟩
      rw [List.mem_singleton.mp hc] at e
      have := (List.mem_filter.mp ha).2
      simp [e] at this
    · intro p hp
      rw [hf] at hp
      rw [ho]
      by_cases e : p = q
      · exact List.mem_append_right _ (by simp [e])
      · exact List.mem_append_left _ (List.mem_filter.mpr ⟨h.fo p hp, by simp [e]⟩)
    · intro p x e
      rw [hl, getP_put] at e
      split at e
      · rename_i z
        rw [← z, hq]
        exact e
      · exact h.lk p x e
    · have := h.rt
      have := putP_len rm.lines q l
      rw [hl]
      omega
    · have := h.oc
      have := List.length_filter_le (fun x => decide (x ≠ q)) rm.order
      rw [ho, List.length_append, List.length_singleton]
      push_cast
      omega
  unfold getM
  cases e : getP rm.lines q with
  | some x =>
    have := h.lk q x e
    rw [hq] at this
    cases this
    obtain ⟨a1, a2⟩ := key rm rfl rfl rfl rfl rfl
    refine ⟨rm, rfl, a1, a2, rfl, ?_, rfl⟩
    rw [if_pos ((h.k q).mpr (by rw [e]; rfl)), Int.add_zero]
    rfl
  | none =>
    have hno : q ∉ rm.order := fun z => by
      have := (h.k q).mp z
      rw [e] at this
      cases this
    have hd := h.dk q
    rw [if_neg fun z => hno (h.fo q z), hq] at hd
    obtain ⟨a1, a2⟩ := key { rm with reads := rm.reads + 1 } rfl rfl rfl rfl rfl
    refine ⟨{ rm with reads := rm.reads + 1 }, by rw [hd]; rfl, a1, a2, rfl, ?_, rfl⟩
    rw [if_neg hno]
    rfl
theorem stD_pages (f : Int → List Nat) : ∀ (fs : List Int) (dl : List Deed) (q : Int), getP (stD (dl ++ fs.map fun p => .page p (f p))).pages q = if q ∈ fs then some (f q) else getP (stD dl).pages q
  | [], dl, q => by rw [List.map_nil, List.append_nil, if_neg (by simp)]
  | p :: fs, dl, q => by
    have e : dl ++ (p :: fs).map (fun p => Deed.page p (f p)) = (dl ++ [.page p (f p)]) ++ fs.map fun p => .page p (f p) := by simp
    rw [e, stD_pages f fs, stD_snoc]
    show (if q ∈ fs then _ else getP (putP (stD dl).pages p (f p)) q) = _
    rw [getP_put]
    by_cases h1 : q ∈ fs
    · rw [if_pos h1, if_pos (by simp [h1])]
    · rw [if_neg h1]
      by_cases h2 : p = q
      · rw [if_pos h2, if_pos (by simp [h2]), h2]
      · rw [if_neg h2, if_neg (by simp [h1]; exact fun z => h2 z.symm)]
theorem LI.line (h : LI fr fi t b dl rm ls) {q : Int} (hq : q ∈ rm.order) : getP ls q = some (lnP rm.lines q) ∧ (lnP rm.lines q).length ≤ 3 := by
  obtain ⟨l, e⟩ := Option.isSome_iff_exists.mp ((h.k q).mp hq)
  have := h.lk q l e
  rw [lnP, e]
  exact ⟨this, h.l3 q l this⟩
/-- all that is new is written -/
theorem LI.flush (h : LI fr fi t b dl rm ls) (ht : t ≤ 400) : LI fr fi (t + 1) b (dl ++ rm.fresh.map fun p => .page p (lnP rm.lines p)) { rm with fresh := [], writes := rm.writes + (rm.fresh.length : Nat) } ls := by
  refine ⟨h.hfr, h.hfi, h.keys, h.k, h.no, by simp, (fun q hq => by cases hq), h.lk, fun q => ?_, ⟨?_, fun x hx => ?_⟩, ?_, by have := h.lt; omega, by have := h.rt; show rm.lines.length ≤ _; omega, h.oc, h.l3⟩
  · rw [stD_pages, if_neg (show ¬ q ∈ ([] : List Int) by simp), h.dk]
    by_cases z : q ∈ rm.fresh
    · rw [if_pos z, (h.line (h.fo q z)).1]
    · rw [if_neg z, if_neg z]
  · have := h.cnt
    have := h.lt
    rw [List.length_append, List.length_map]
    omega
  · rcases List.mem_append.mp hx with z | z
    · exact h.ok.2 x z
    · obtain ⟨p, hp, rfl⟩ := List.mem_map.mp z
      have := (h.line (h.fo p hp)).2
      show (lnP rm.lines p).length ≤ 1000
      omega
  · have := h.cnt
    rw [List.length_append, List.length_map]
    exact this
theorem LI.up (h : LI fr fi t b dl rm ls) {t' : Nat} {b' : Int} (ht : t ≤ t') (hb : (rm.order.length : Int) ≤ b') : LI fr fi t' b' dl rm ls :=
  ⟨h.hfr, h.hfi, h.keys, h.k, h.no, h.nf, h.fo, h.lk, h.dk, h.ok, h.cnt, Nat.le_trans h.lt ht, Nat.le_trans h.rt ht, hb, h.l3⟩
/-- none goes -/
theorem LI.ev0 (h : LI fr fi t b dl rm ls) (hn : ¬ fr < (rm.order.length : Int)) : evict dl rm = (dl, rm) ∧ LI fr fi t fr dl rm ls := by
  refine ⟨?_, h.up (Nat.le_refl _) (by omega)⟩
  rw [evict, h.hfr, if_neg hn]
/-- one goes -/
theorem LI.ev1 (h : LI fr fi t (fr + 1) dl rm ls) {g : Int} {rest : List Int} (ho : rm.order = g :: rest) (hn : fr < (rm.order.length : Int)) (ht : t ≤ 400) :
    (rest.length : Int) = fr ∧ (evict dl rm).2.order = rest ∧ (evict dl rm).2.fresh = (rm.fresh.filter fun x => decide (x ≠ g)) ∧ (evict dl rm).2.reads = rm.reads ∧ (evict dl rm).2.writes = rm.writes + (if g ∈ rm.fresh then 1 else 0) ∧ LI fr fi t fr (evict dl rm).1 (evict dl rm).2 ls := by
  have hrl : (rest.length : Int) = fr := by
    have := h.oc
    rw [ho, List.length_cons] at this hn
    push_cast at this hn
    omega
  have hg : g ∈ rm.order := by rw [ho]; simp
  have hgr : g ∉ rest := by
    have := h.no
    rw [ho, List.nodup_cons] at this
    exact this.1
  have hor : ∀ q, q ∈ rest ↔ q ∈ rm.order ∧ g ≠ q := fun q => by
    rw [ho, List.mem_cons]
    exact ⟨fun z => ⟨.inr z, fun y => hgr (by rw [y]; exact z)⟩, fun ⟨y, z⟩ => y.elim (fun e => absurd e.symm z) id⟩
  have base : ∀ (dl' : List Deed) (M : Rm), M.frames = rm.frames → M.first = rm.first → M.order = rest → M.fresh = (rm.fresh.filter fun x => decide (x ≠ g)) → M.lines = dropP rm.lines g →
      (∀ q, getP (stD dl').pages q = if q ∈ (rm.fresh.filter fun x => decide (x ≠ g)) then none else getP ls q) → okL dl' → dl'.length + (rm.fresh.filter fun x => decide (x ≠ g)).length ≤ ls.length → LI fr fi t fr dl' M ls := by
    intro dl' M e1 e2 e3 e4 e5 e6 e7 e8
    refine ⟨e1.trans h.hfr, e2.trans h.hfi, h.keys, fun q => ?_, ?_, ?_, fun q hq => ?_, fun q l e => ?_, by rw [e4]; exact e6, e7, by rw [e4]; exact e8, h.lt, ?_, ?_, h.l3⟩
    · rw [e3, e5, getP_drop, hor, h.k]
      by_cases z : g = q
      · rw [if_pos z]
        simp [z]
      · rw [if_neg z]
        simp [z]
    · rw [e3]
      have := h.no
      rw [ho, List.nodup_cons] at this
      exact this.2
    · rw [e4]; exact h.nf.filter _
    · rw [e4, List.mem_filter, decide_eq_true_eq] at hq
      rw [e3, hor]
      exact ⟨h.fo q hq.1, fun z => hq.2 z.symm⟩
    · rw [e5, getP_drop] at e
      split at e
      · cases e
      · exact h.lk q l e
    · have := h.rt
      have := dropP_len rm.lines g
      rw [e5]
      omega
    · rw [e3]; omega
  have ev : evict dl rm = ((if g ∈ rm.fresh then saveM dl rm g else (dl, rm)).1, { (if g ∈ rm.fresh then saveM dl rm g else (dl, rm)).2 with order := rest, lines := dropP (if g ∈ rm.fresh then saveM dl rm g else (dl, rm)).2.lines g }) := by
    rw [evict, h.hfr, if_pos hn, ho]
  rw [ev]
  by_cases hf : g ∈ rm.fresh
  · simp only [if_pos hf]
    have ef := erase_filter h.nf g
    have hln := h.line hg
    have hlen : (rm.fresh.filter fun x => decide (x ≠ g)).length + 1 = rm.fresh.length := by
      rw [← ef, List.length_erase_of_mem hf]
      have := List.length_pos_of_mem hf
      omega
    refine ⟨hrl, by first | rfl | trivial, ef, by first | rfl | trivial, by first | rfl | trivial, base _ _ rfl rfl rfl ef rfl (fun q => ?_) ⟨?_, fun x hx => ?_⟩ ?_⟩
    · show getP (stD (dl ++ [.page g (lnP rm.lines g)])).pages q = _
      rw [stD_snoc]
      show getP (putP (stD dl).pages g (lnP rm.lines g)) q = _
      rw [getP_put, h.dk]
      by_cases z : g = q
      · subst z
        rw [if_pos rfl, if_neg (by simp), hln.1]
      · rw [if_neg z]
        by_cases y : q ∈ rm.fresh
        · rw [if_pos y, if_pos (List.mem_filter.mpr ⟨y, by simp; exact fun e => z e.symm⟩)]
        · rw [if_neg y, if_neg fun e => y (List.mem_filter.mp e).1]
    · have := h.cnt
      have := h.lt
      show (dl ++ [_]).length ≤ _
      rw [List.length_append, List.length_singleton]
      omega
    · rcases List.mem_append.mp (show x ∈ dl ++ [.page g (lnP rm.lines g)] from hx) with z | z
      · exact h.ok.2 x z
      · rw [List.mem_singleton.mp z]
        have := hln.2
        show (lnP rm.lines g).length ≤ 1000
        omega
    · have := h.cnt
      show (dl ++ [_]).length + _ ≤ _
      rw [List.length_append, List.length_singleton]
      omega
  · simp only [if_neg hf]
    have ef := filter_out hf
    refine ⟨hrl, by first | rfl | trivial, ef.symm, by first | rfl | trivial, (Int.add_zero _).symm, base _ _ rfl rfl rfl ef.symm rfl (fun q => ?_) h.ok ?_⟩
    · rw [ef]; exact h.dk q
    · rw [ef]; exact h.cnt
/-- what is on the disk -/
theorem LI.written (h : LI fr fi t b dl rm ls) {ys zs : List Int} (y1 : ys.Perm (ls.map (·.1))) (y2 : ys.Pairwise (· ≤ ·)) (z1 : zs.Perm ((stD dl).pages.map (·.1))) (z2 : zs.Pairwise (· ≤ ·)) : (ys.filter fun x => !decide (x ∈ rm.fresh)) = zs := by
  refine List.Perm.eq_of_pairwise (le := (· ≤ ·)) (fun a b _ _ h1 h2 => by omega) (y2.filter _) z2 ?_
  have n1 : (ys.filter fun x => !decide (x ∈ rm.fresh)).Nodup := (y1.nodup_iff.mpr h.nodup).filter _
  have n2 : zs.Nodup := z1.nodup_iff.mpr (st_facts dl h.ok.2).2.2.2
  refine (List.perm_ext_iff_of_nodup n1 n2).mpr fun q => ?_
  rw [List.mem_filter, y1.mem_iff, z1.mem_iff, ← getP_some, ← getP_some, h.dk]
  by_cases z : q ∈ rm.fresh
  · rw [if_pos z]
    simp [z]
  · rw [if_neg z]
    simp [z]
theorem LI.ini (a : Addr) (hb : 0 ≤ b) : LI fr fi 0 b [] ⟨a, fr, fi, [], [], [], 0, 0⟩ [] :=
  ⟨rfl, by show fi = fi + ((0 : Nat) : Int); omega, rfl, (fun q => ⟨(fun z => by cases z), (fun z => by cases z)⟩), List.nodup_nil, List.nodup_nil, (fun q z => by cases z), (fun q l z => by cases z), fun q => rfl, ⟨Nat.zero_le _, (fun x hx => by cases hx)⟩, Nat.le_refl _, Nat.le_refl _, Nat.le_refl _, hb, (fun q l z => by cases z)⟩
end
end Bg

set_option Elab.async false
set_option linter.all false
set_option maxRecDepth 100000
set_option maxHeartbeats 2000000
namespace K15
open PySem L2 Dv Bg
def top (i : Nat) : Stmt := PySem.Challenge.pw_storesagree_k15_disk_and_room.main.body.getD i (.Pass ⟨0, 0, 0, 0⟩)
structure Bn (mg : Str → Option Value) : Prop where
  b_int : mg "int" = none
  b_str : mg "str" = none
  b_bool : mg "bool" = none
  b_tuple : mg "tuple" = none
  b_list : mg "list" = none
  b_dict : mg "dict" = none
  b_isinstance : mg "isinstance" = none
  b_len : mg "len" = none
  b_all : mg "all" = none
  b_sorted : mg "sorted" = none
  b_max : mg "max" = none
  b_min : mg "min" = none
  b_abs : mg "abs" = none
  b_range : mg "range" = none
  b_enumerate : mg "enumerate" = none
  b_any : mg "any" = none
  b_sum : mg "sum" = none
  b_set : mg "set" = none
  b_zip : mg "zip" = none
abbrev s_Disk___init__ : Stmt := (Dv.clsBody (top 6)).getD 0 (.Pass ⟨0, 0, 0, 0⟩)
theorem sc_Disk___init__ : FnScope ["self"] ["self"] (defScope s_Disk___init__) := ⟨rfl, rfl, rfl, by decide +kernel, rfl, by decide +kernel, by decide +kernel⟩
abbrev s_Disk_write : Stmt := (Dv.clsBody (top 6)).getD 1 (.Pass ⟨0, 0, 0, 0⟩)
theorem sc_Disk_write : FnScope ["self", "page", "line"] ["self", "page", "line"] (defScope s_Disk_write) := ⟨rfl, rfl, rfl, by decide +kernel, rfl, by decide +kernel, by decide +kernel⟩
abbrev s_Disk_read : Stmt := (Dv.clsBody (top 6)).getD 2 (.Pass ⟨0, 0, 0, 0⟩)
theorem sc_Disk_read : FnScope ["self", "page"] ["self", "page"] (defScope s_Disk_read) := ⟨rfl, rfl, rfl, by decide +kernel, rfl, by decide +kernel, by decide +kernel⟩
abbrev s_Disk_free : Stmt := (Dv.clsBody (top 6)).getD 3 (.Pass ⟨0, 0, 0, 0⟩)
theorem sc_Disk_free : FnScope ["self", "pages", "page"] ["self", "pages"] (defScope s_Disk_free) := ⟨rfl, rfl, rfl, by decide +kernel, rfl, by decide +kernel, by decide +kernel⟩
abbrev s_Disk_append : Stmt := (Dv.clsBody (top 6)).getD 4 (.Pass ⟨0, 0, 0, 0⟩)
theorem sc_Disk_append : FnScope ["self", "line"] ["self", "line"] (defScope s_Disk_append) := ⟨rfl, rfl, rfl, by decide +kernel, rfl, by decide +kernel, by decide +kernel⟩
abbrev s_Disk_keep_log : Stmt := (Dv.clsBody (top 6)).getD 5 (.Pass ⟨0, 0, 0, 0⟩)
theorem sc_Disk_keep_log : FnScope ["self", "many"] ["self", "many"] (defScope s_Disk_keep_log) := ⟨rfl, rfl, rfl, by decide +kernel, rfl, by decide +kernel, by decide +kernel⟩
abbrev s_Disk_set_root : Stmt := (Dv.clsBody (top 6)).getD 6 (.Pass ⟨0, 0, 0, 0⟩)
theorem sc_Disk_set_root : FnScope ["self", "slot", "line"] ["self", "slot", "line"] (defScope s_Disk_set_root) := ⟨rfl, rfl, rfl, by decide +kernel, rfl, by decide +kernel, by decide +kernel⟩
abbrev s_Disk_root : Stmt := (Dv.clsBody (top 6)).getD 7 (.Pass ⟨0, 0, 0, 0⟩)
theorem sc_Disk_root : FnScope ["self", "slot"] ["self", "slot"] (defScope s_Disk_root) := ⟨rfl, rfl, rfl, by decide +kernel, rfl, by decide +kernel, by decide +kernel⟩
abbrev s_Disk_log : Stmt := (Dv.clsBody (top 6)).getD 8 (.Pass ⟨0, 0, 0, 0⟩)
theorem sc_Disk_log : FnScope ["self"] ["self"] (defScope s_Disk_log) := ⟨rfl, rfl, rfl, by decide +kernel, rfl, by decide +kernel, by decide +kernel⟩
abbrev s_Disk_pages : Stmt := (Dv.clsBody (top 6)).getD 9 (.Pass ⟨0, 0, 0, 0⟩)
theorem sc_Disk_pages : FnScope ["self"] ["self"] (defScope s_Disk_pages) := ⟨rfl, rfl, rfl, by decide +kernel, rfl, by decide +kernel, by decide +kernel⟩
abbrev s_Disk_deeds : Stmt := (Dv.clsBody (top 6)).getD 10 (.Pass ⟨0, 0, 0, 0⟩)
theorem sc_Disk_deeds : FnScope ["self"] ["self"] (defScope s_Disk_deeds) := ⟨rfl, rfl, rfl, by decide +kernel, rfl, by decide +kernel, by decide +kernel⟩
abbrev s_Disk_do : Stmt := (Dv.clsBody (top 6)).getD 11 (.Pass ⟨0, 0, 0, 0⟩)
theorem sc_Disk_do : FnScope ["self", "deed"] ["self", "deed"] (defScope s_Disk_do) := ⟨rfl, rfl, rfl, by decide +kernel, rfl, by decide +kernel, by decide +kernel⟩
def fs_Disk : List Str := ["lines", "logged", "roots", "done"]
def fs_Room : List Str := ["disk", "frames", "first", "lines", "order", "fresh", "reads", "writes"]
/-- a deed's promise -/
def o_deed (C : Addr) (args : Deed → Option (List D)) : OkC := fun ds s R => ∃ A dl x as, args x = some as ∧ ds = .raw (.ref A.a) :: as ∧ DiskAt C s A dl ∧ okL (dl ++ [x]) ∧ ∀ s', DiskAt C s' A (dl ++ [x]) → FrD A s s' → R .non s'
def a_write : Deed → Option (List D) | .page k l => some [.int k, lineD l] | _ => none
def a_append : Deed → Option (List D) | .log l => some [lineD l] | _ => none
def a_keep_log : Deed → Option (List D) | .keep m => some [.int (m : Nat)] | _ => none
def a_set_root : Deed → Option (List D) | .root i l => some [.int (i : Nat), lineD l] | _ => none
def a_free : Deed → Option (List D) | .free k => some [.tup [.int k]] | _ => none
def a_do : Deed → Option (List D) | x => some [x.d]
def o_disk (C : Addr) (as : List D) (p : List Deed → (D → Prop) → Prop) : OkC := fun ds s R => ∃ A dl, ds = .raw (.ref A.a) :: as ∧ DiskAt C s A dl ∧ okL dl ∧ p dl fun d => R d s
theorem gf1 (a b c d : D) : getF "lines" [("lines", a), ("logged", b), ("roots", c), ("done", d)] = some a := rfl
theorem gf2 (a b c d : D) : getF "logged" [("lines", a), ("logged", b), ("roots", c), ("done", d)] = some b := rfl
theorem gf3 (a b c d : D) : getF "roots" [("lines", a), ("logged", b), ("roots", c), ("done", d)] = some c := rfl
theorem gf4 (a b c d : D) : getF "done" [("lines", a), ("logged", b), ("roots", c), ("done", d)] = some d := rfl
theorem sf2 (a b c d e : D) : setFD "logged" e [("lines", a), ("logged", b), ("roots", c), ("done", d)] = ([("lines", a), ("logged", e), ("roots", c), ("done", d)] : List (Str × D)) := rfl
theorem n_snoc {dl : List Deed} {x : Deed} : dl.map Deed.d ++ [x.d] = (dl ++ [x]).map Deed.d := by rw [List.map_append]; rfl
theorem ix01 {α : Type} {xs : List α} {i : Nat} (h : xs.length = 2) (hi : i < 2) : ixN xs.length (i : Nat) = some i := by
  rw [h]
  match i, hi with
  | 0, _ => rfl
  | 1, _ => rfl
theorem FrD.trans {A : DA} {s s' s2 : Cs} (a : FrD A s s') (b : FrD A s' s2) : FrD A s s2 := fun x h => (b x h).trans (a x h)
theorem fr_upd {A : DA} {s : Cs} {a : Addr} {u : Cell} (h : a = A.a ∨ a = A.l ∨ a = A.r ∨ a = A.n) : FrD A s (updS s a u) := fun b ⟨h1, h2, h3, h4⟩ => updS_ne fun e => by
  subst e
  rcases h with e | e | e | e
  · exact h1 e
  · exact h2 e
  · exact h3 e
  · exact h4 e
section
variable {P : Program} {w : World} {K : PySem.W.Frag} {mg : Str → Option Value} {base : Heap}
theorem ok_Disk___init__ {CDisk : Addr} (T : Bn mg) (F_Disk : ClF K CDisk fs_Disk) (Df : KDef K mg "Disk" CDisk "Disk.__init__" s_Disk___init__ ["self"])    : Mkr P w K mg base "Disk" CDisk 1 ["self"] (spD ⟨P, w, K⟩ (Wc ⟨P, w, K⟩) 1 (fun ds s R => ∃ a, ds = [.raw (.ref a)] ∧ s a = some (.ins CDisk []) ∧ ∀ A s', A.a = a → s A.l = none → s A.r = none → s A.n = none → DiskAt CDisk s' A [] → FrD A s s' → R .non s')) := by
  have S := sc_Disk___init__
  refine Df.okW S rfl fun f cdv A outer s H E B hr => ?_
  refine ⟨_, (dss_cons (ds_fld (Sub.self ⟨P, w, K⟩) F_Disk (by decide) (dv 0) (de_newDc (Sub.self ⟨P, w, K⟩))) (dss_cons (ds_fld (Sub.self ⟨P, w, K⟩) F_Disk (by decide) (dv 0) (de_tup da_nil)) (dss_cons (ds_fld (Sub.self ⟨P, w, K⟩) F_Disk (by decide) (dv 0) (de_newLc (Sub.self ⟨P, w, K⟩) (da_cons (de_tup da_nil) (da_cons (de_tup da_nil) da_nil)))) (dss_one (ds_fld (Sub.self ⟨P, w, K⟩) F_Disk (by decide) (dv 0) (de_newLc (Sub.self ⟨P, w, K⟩) da_nil)))))), ?_⟩
  rintro ds s R hl ⟨a, rfl, ha, h⟩
  have nn : ∀ {t : Cs} {b c : Addr} {u : Cell}, t b = some u → t c = none → b ≠ c := fun e1 e2 z => by
    subst z
    rw [e1] at e2
    cases e2
  have un : ∀ {t : Cs} {b c : Addr} {u : Cell}, updS t b u c = none → c ≠ b ∧ t c = none := fun {t b c u} e => by
    by_cases z : c = b
    · rw [z, updS_same] at e; cases e
    · rw [updS_ne z] at e; exact ⟨z, e⟩
  simp only [dWhile, dParDF, dParFD, dPar3, dMetS, dCallX, dRaise, dInDO, dIxDO, dLstRg, dTupRg, dCallHX, dRet, dRetN, dSeq, dIfS, dSet, dPar, dAug, dFor, dDrop, dDropM, dSetM, dSetF, fLst, fItems, mBm, dNewD, dPutO, dNext, dBreak, dCont, dAndV, dOrV, dNotV, dAnd, dOr, dNot, dB, dIf, dTup, dLst, dOp, dUn, dCallP, dCall, lfP, dCons, dNil, dVar, dC, dChain, dOpO, dCallO, dItems, dEnum, dRange1, dRange2, dLc, dLc2, dNoPart, dPart, dSl, dTru, gtName, gtTup, gtCons, gtNil, dYes, dGet, dGetO, dRevT, dRevL, lcBody, lcOut, lcIn, wipeD, dFld, dSetFld, dAugFld, dMeth, dMethX, dMake, dNewDc, dNewLc, dBmC, dOpC, dCallC, dSeqC, dIxC, dDGet, dDPut, dDDel, dDIn, dDGet2, dDPop2, dDLen, dDSort, dEqE, dSetIx, dSlC, dDictP, dLock, kAny, kKeys, dForK, dLcK, self_get, self_put, snd_get, snd_put, okV, okFst, okVX, List.map_cons, List.map_nil, List.cons_append, List.nil_append, List.length_cons, List.length_nil, Nat.reduceAdd, Nat.reduceSub, Nat.zero_add, Nat.sub_self, List.replicate_zero, List.replicate_succ, List.getElem?_cons_zero, List.getElem?_cons_succ, List.set_cons_zero, List.set_cons_succ, Option.some.injEq, Dv.Slot.d.injEq, Dv.Slot.own.injEq, Ob.lst.injEq, Ob.dic.injEq, exists_eq_left', exists_eq_left, exists_and_left, List.cons.injEq, and_true, true_and, and_assoc, D.raw.injEq, V.ty.injEq, D.bl.injEq, D.int.injEq, D.str.injEq, D.tup.injEq, D.lst.injEq, Bool.true_eq_false, Bool.false_eq_true, if_true, if_false, ite_true, ite_false, reduceIte, reduceCtorEq, false_or, or_false, itemsD_tup, itemsD_lst, itemsD_dic, exists_const, addP_int, addP_str, addP_tup, addP_lst, cmpP_int, intP_int, slD_tup, slD_lst, lenD_tup, lenD_lst, lenD_str]
  intro l hl0
  have al : a ≠ l := nn ha hl0
  refine ⟨a, rfl, _, (updS_ne al).trans ha, by decide, by decide, a, rfl, _, updS_same, by show 1 < 1000; decide, by decide, by decide, by decide, fun r hr => ?_⟩
  obtain ⟨ra, hr⟩ := un hr
  obtain ⟨_, hr⟩ := un hr
  obtain ⟨rl, hr⟩ := un hr
  refine ⟨a, rfl, _, (updS_ne (Ne.symm ra)).trans updS_same, by show 2 < 1000; decide, by decide, fun n hn => ?_⟩
  obtain ⟨na, hn⟩ := un hn
  obtain ⟨nr, hn⟩ := un hn
  obtain ⟨_, hn⟩ := un hn
  obtain ⟨_, hn⟩ := un hn
  obtain ⟨nl, hn⟩ := un hn
  refine ⟨a, rfl, _, (updS_ne (Ne.symm na)).trans updS_same, by show 3 < 1000; decide, ?_⟩
  refine h ⟨a, l, r, n⟩ _ rfl hl0 hr hn ⟨updS_same, ?_, ?_, ?_, Ne.symm nr⟩ fun b hb => ?_
  · show updS _ a _ l = _
    rw [updS_ne (Ne.symm al), updS_ne (Ne.symm nl), updS_ne (Ne.symm al), updS_ne (Ne.symm rl), updS_ne (Ne.symm al), updS_ne (Ne.symm al), updS_same]
    rfl
  · show updS _ a _ r = _
    rw [updS_ne ra, updS_ne (Ne.symm nr), updS_ne ra, updS_same]
    rfl
  · show updS _ a _ n = _
    rw [updS_ne na, updS_same]
    rfl
  · obtain ⟨h1, h2, h3, h4⟩ := hb
    have h1 : b ≠ a := h1
    have h2 : b ≠ l := h2
    have h3 : b ≠ r := h3
    have h4 : b ≠ n := h4
    rw [updS_ne h1, updS_ne h4, updS_ne h1, updS_ne h3, updS_ne h1, updS_ne h1, updS_ne h2]

theorem ok_Disk_write {CDisk : Addr} (T : Bn mg) (F_Disk : ClF K CDisk fs_Disk) (Df : MDef K CDisk "write" "Disk.write" s_Disk_write ["self", "page", "line"])    : Mth P w K mg base CX0 CDisk "write" 1 ["self", "page", "line"] (spD ⟨P, w, K⟩ (Wc ⟨P, w, K⟩) 3 (o_deed CDisk a_write)) := by
  have S := sc_Disk_write
  refine Df.okW S rfl fun f cdv A outer s H E B hr => ?_
  refine ⟨_, (dss_cons (ds_expr (de_bmC (Sub.self ⟨P, w, K⟩) PySem.F.slot_list_append PySem.F.type_list_append ow_append (de_fld (Sub.self ⟨P, w, K⟩) F_Disk (by decide) (dv 0)) (da_cons (de_tup (da_cons de_str (da_cons (dv 1) (da_cons (dv 2) da_nil)))) da_nil))) (dss_one (ds_dputC (Sub.self ⟨P, w, K⟩) hr.u1 (de_fld (Sub.self ⟨P, w, K⟩) F_Disk (by decide) (dv 0)) (dv 1) (dv 2)))), ?_⟩
  rintro ds s R hl ⟨A, dl, x, as, ha, rfl, hA, hb, h⟩
  have hzl := sizeLine_eq
  obtain ⟨hb1, hb2⟩ := okL_snoc hb
  obtain ⟨hs1, hs2, hs3, hs4⟩ := st_facts dl hb1.2
  have hb3 := hb1.1
  cases x with
  | page k l =>
    cases ha
    simp only [dWhile, dParDF, dParFD, dPar3, dMetS, dCallX, dRaise, dInDO, dIxDO, dLstRg, dTupRg, dCallHX, dRet, dRetN, dSeq, dIfS, dSet, dPar, dAug, dFor, dDrop, dDropM, dSetM, dSetF, fLst, fItems, mBm, dNewD, dPutO, dNext, dBreak, dCont, dAndV, dOrV, dNotV, dAnd, dOr, dNot, dB, dIf, dTup, dLst, dOp, dUn, dCallP, dCall, lfP, dCons, dNil, dVar, dC, dChain, dOpO, dCallO, dItems, dEnum, dRange1, dRange2, dLc, dLc2, dNoPart, dPart, dSl, dTru, gtName, gtTup, gtCons, gtNil, dYes, dGet, dGetO, dRevT, dRevL, lcBody, lcOut, lcIn, wipeD, dFld, dSetFld, dAugFld, dMeth, dMethX, dMake, dNewDc, dNewLc, dBmC, dOpC, dCallC, dSeqC, dIxC, dDGet, dDPut, dDDel, dDIn, dDGet2, dDPop2, dDLen, dDSort, dEqE, dSetIx, dSlC, dDictP, dLock, kAny, kKeys, dForK, dLcK, self_get, self_put, snd_get, snd_put, okV, okFst, okVX, List.map_cons, List.map_nil, List.cons_append, List.nil_append, List.length_cons, List.length_nil, Nat.reduceAdd, Nat.reduceSub, Nat.zero_add, Nat.sub_self, List.replicate_zero, List.replicate_succ, List.getElem?_cons_zero, List.getElem?_cons_succ, List.set_cons_zero, List.set_cons_succ, Option.some.injEq, Dv.Slot.d.injEq, Dv.Slot.own.injEq, Ob.lst.injEq, Ob.dic.injEq, exists_eq_left', exists_eq_left, exists_and_left, List.cons.injEq, and_true, true_and, and_assoc, D.raw.injEq, V.ty.injEq, D.bl.injEq, D.int.injEq, D.str.injEq, D.tup.injEq, D.lst.injEq, Bool.true_eq_false, Bool.false_eq_true, if_true, if_false, ite_true, ite_false, reduceIte, reduceCtorEq, false_or, or_false, itemsD_tup, itemsD_lst, itemsD_dic, exists_const, addP_int, addP_str, addP_tup, addP_lst, cmpP_int, intP_int, slD_tup, slD_lst, lenD_tup, lenD_lst, lenD_str]
    refine ⟨A.a, rfl, _, hA.o, _, gf4 _ _ _ _, A.n, rfl, ⟨_, hA.n⟩, by decide, _, hA.n, fun hz => ⟨by rw [List.length_map]; omega, ?_⟩⟩
    have ea : updS s A.n (.lst (dl.map Deed.d ++ [.tup [.str "page", .int k, lineD l]])) A.a = _ := (updS_ne hA.an).trans hA.o
    have el : updS s A.n (.lst (dl.map Deed.d ++ [.tup [.str "page", .int k, lineD l]])) A.l = _ := (updS_ne hA.ln).trans hA.l
    have er : updS s A.n (.lst (dl.map Deed.d ++ [.tup [.str "page", .int k, lineD l]])) A.r = _ := (updS_ne hA.ne).trans hA.r
    refine ⟨A.a, rfl, _, ea, _, gf1 _ _ _ _, A.l, rfl, _, el, .inl k, rfl, by rw [List.length_map]; omega, ?_⟩
    refine h _ ⟨?_, ?_, ?_, ?_, hA.ne⟩ (FrD.trans (fr_upd (.inr (.inr (.inr rfl)))) (fr_upd (.inr (.inl rfl))))
    · rw [stD_snoc]
      exact (updS_ne hA.al).trans ea
    · rw [stD_snoc, updS_same, putD_pk]
      rfl
    · rw [stD_snoc]
      exact (updS_ne hA.lr.symm).trans er
    · rw [updS_ne hA.ln.symm, updS_same, ← n_snoc]
      rfl
  | _ => cases ha

theorem ok_Disk_append {CDisk : Addr} (T : Bn mg) (F_Disk : ClF K CDisk fs_Disk) (Df : MDef K CDisk "append" "Disk.append" s_Disk_append ["self", "line"])    : Mth P w K mg base CX0 CDisk "append" 1 ["self", "line"] (spD ⟨P, w, K⟩ (Wc ⟨P, w, K⟩) 2 (o_deed CDisk a_append)) := by
  have S := sc_Disk_append
  refine Df.okW S rfl fun f cdv A outer s H E B hr => ?_
  refine ⟨_, (dss_cons (ds_expr (de_bmC (Sub.self ⟨P, w, K⟩) PySem.F.slot_list_append PySem.F.type_list_append ow_append (de_fld (Sub.self ⟨P, w, K⟩) F_Disk (by decide) (dv 0)) (da_cons (de_tup (da_cons de_str (da_cons (dv 1) da_nil))) da_nil))) (dss_one (ds_fld (Sub.self ⟨P, w, K⟩) F_Disk (by decide) (dv 0) (de_op od_add (de_fld (Sub.self ⟨P, w, K⟩) F_Disk (by decide) (dv 0)) (dv 1))))), ?_⟩
  rintro ds s R hl ⟨A, dl, x, as, ha, rfl, hA, hb, h⟩
  have hzl := sizeLine_eq
  obtain ⟨hb1, hb2⟩ := okL_snoc hb
  obtain ⟨hs1, hs2, hs3, hs4⟩ := st_facts dl hb1.2
  have hb3 := hb1.1
  cases x with
  | log l =>
    cases ha
    simp only [dWhile, dParDF, dParFD, dPar3, dMetS, dCallX, dRaise, dInDO, dIxDO, dLstRg, dTupRg, dCallHX, dRet, dRetN, dSeq, dIfS, dSet, dPar, dAug, dFor, dDrop, dDropM, dSetM, dSetF, fLst, fItems, mBm, dNewD, dPutO, dNext, dBreak, dCont, dAndV, dOrV, dNotV, dAnd, dOr, dNot, dB, dIf, dTup, dLst, dOp, dUn, dCallP, dCall, lfP, dCons, dNil, dVar, dC, dChain, dOpO, dCallO, dItems, dEnum, dRange1, dRange2, dLc, dLc2, dNoPart, dPart, dSl, dTru, gtName, gtTup, gtCons, gtNil, dYes, dGet, dGetO, dRevT, dRevL, lcBody, lcOut, lcIn, wipeD, dFld, dSetFld, dAugFld, dMeth, dMethX, dMake, dNewDc, dNewLc, dBmC, dOpC, dCallC, dSeqC, dIxC, dDGet, dDPut, dDDel, dDIn, dDGet2, dDPop2, dDLen, dDSort, dEqE, dSetIx, dSlC, dDictP, dLock, kAny, kKeys, dForK, dLcK, self_get, self_put, snd_get, snd_put, okV, okFst, okVX, List.map_cons, List.map_nil, List.cons_append, List.nil_append, List.length_cons, List.length_nil, Nat.reduceAdd, Nat.reduceSub, Nat.zero_add, Nat.sub_self, List.replicate_zero, List.replicate_succ, List.getElem?_cons_zero, List.getElem?_cons_succ, List.set_cons_zero, List.set_cons_succ, Option.some.injEq, Dv.Slot.d.injEq, Dv.Slot.own.injEq, Ob.lst.injEq, Ob.dic.injEq, exists_eq_left', exists_eq_left, exists_and_left, List.cons.injEq, and_true, true_and, and_assoc, D.raw.injEq, V.ty.injEq, D.bl.injEq, D.int.injEq, D.str.injEq, D.tup.injEq, D.lst.injEq, Bool.true_eq_false, Bool.false_eq_true, if_true, if_false, ite_true, ite_false, reduceIte, reduceCtorEq, false_or, or_false, itemsD_tup, itemsD_lst, itemsD_dic, exists_const, addP_int, addP_str, addP_tup, addP_lst, cmpP_int, intP_int, slD_tup, slD_lst, lenD_tup, lenD_lst, lenD_str]
    refine ⟨A.a, rfl, _, hA.o, _, gf4 _ _ _ _, A.n, rfl, ⟨_, hA.n⟩, by decide, _, hA.n, fun hz => ⟨by rw [List.length_map]; omega, ?_⟩⟩
    have ea : updS s A.n (.lst (dl.map Deed.d ++ [.tup [.str "log", lineD l]])) A.a = _ := (updS_ne hA.an).trans hA.o
    have el : updS s A.n (.lst (dl.map Deed.d ++ [.tup [.str "log", lineD l]])) A.l = _ := (updS_ne hA.ln).trans hA.l
    have er : updS s A.n (.lst (dl.map Deed.d ++ [.tup [.str "log", lineD l]])) A.r = _ := (updS_ne hA.ne).trans hA.r
    refine ⟨A.a, rfl, _, ea, _, gf2 _ _ _ _, ?_⟩
    have hl2 : l.length ≤ 1000 := hb2
    rw [addP_line]
    refine ⟨by omega, A.a, rfl, _, ea, by show 4 < 1000; decide, ?_⟩
    refine h _ ⟨?_, ?_, ?_, ?_, hA.ne⟩ (FrD.trans (fr_upd (.inr (.inr (.inr rfl)))) (fr_upd (.inl rfl)))
    · rw [stD_snoc, updS_same, sf2]
      rfl
    · rw [stD_snoc]
      exact (updS_ne hA.al.symm).trans el
    · rw [stD_snoc]
      exact (updS_ne hA.ar.symm).trans er
    · rw [updS_ne hA.an.symm, updS_same, ← n_snoc]
      rfl
  | _ => cases ha

theorem ok_Disk_keep_log {CDisk : Addr} (T : Bn mg) (F_Disk : ClF K CDisk fs_Disk) (Df : MDef K CDisk "keep_log" "Disk.keep_log" s_Disk_keep_log ["self", "many"])    : Mth P w K mg base CX0 CDisk "keep_log" 1 ["self", "many"] (spD ⟨P, w, K⟩ (Wc ⟨P, w, K⟩) 2 (o_deed CDisk a_keep_log)) := by
  have S := sc_Disk_keep_log
  refine Df.okW S rfl fun f cdv A outer s H E B hr => ?_
  refine ⟨_, (dss_cons (ds_expr (de_bmC (Sub.self ⟨P, w, K⟩) PySem.F.slot_list_append PySem.F.type_list_append ow_append (de_fld (Sub.self ⟨P, w, K⟩) F_Disk (by decide) (dv 0)) (da_cons (de_tup (da_cons de_str (da_cons (dv 1) da_nil))) da_nil))) (dss_one (ds_fld (Sub.self ⟨P, w, K⟩) F_Disk (by decide) (dv 0) (de_slice sd_seq (de_fld (Sub.self ⟨P, w, K⟩) F_Disk (by decide) (dv 0)) do_none (do_some (dv 1)))))), ?_⟩
  rintro ds s R hl ⟨A, dl, x, as, ha, rfl, hA, hb, h⟩
  have hzl := sizeLine_eq
  obtain ⟨hb1, hb2⟩ := okL_snoc hb
  obtain ⟨hs1, hs2, hs3, hs4⟩ := st_facts dl hb1.2
  have hb3 := hb1.1
  cases x with
  | keep m =>
    cases ha
    simp only [dWhile, dParDF, dParFD, dPar3, dMetS, dCallX, dRaise, dInDO, dIxDO, dLstRg, dTupRg, dCallHX, dRet, dRetN, dSeq, dIfS, dSet, dPar, dAug, dFor, dDrop, dDropM, dSetM, dSetF, fLst, fItems, mBm, dNewD, dPutO, dNext, dBreak, dCont, dAndV, dOrV, dNotV, dAnd, dOr, dNot, dB, dIf, dTup, dLst, dOp, dUn, dCallP, dCall, lfP, dCons, dNil, dVar, dC, dChain, dOpO, dCallO, dItems, dEnum, dRange1, dRange2, dLc, dLc2, dNoPart, dPart, dSl, dTru, gtName, gtTup, gtCons, gtNil, dYes, dGet, dGetO, dRevT, dRevL, lcBody, lcOut, lcIn, wipeD, dFld, dSetFld, dAugFld, dMeth, dMethX, dMake, dNewDc, dNewLc, dBmC, dOpC, dCallC, dSeqC, dIxC, dDGet, dDPut, dDDel, dDIn, dDGet2, dDPop2, dDLen, dDSort, dEqE, dSetIx, dSlC, dDictP, dLock, kAny, kKeys, dForK, dLcK, self_get, self_put, snd_get, snd_put, okV, okFst, okVX, List.map_cons, List.map_nil, List.cons_append, List.nil_append, List.length_cons, List.length_nil, Nat.reduceAdd, Nat.reduceSub, Nat.zero_add, Nat.sub_self, List.replicate_zero, List.replicate_succ, List.getElem?_cons_zero, List.getElem?_cons_succ, List.set_cons_zero, List.set_cons_succ, Option.some.injEq, Dv.Slot.d.injEq, Dv.Slot.own.injEq, Ob.lst.injEq, Ob.dic.injEq, exists_eq_left', exists_eq_left, exists_and_left, List.cons.injEq, and_true, true_and, and_assoc, D.raw.injEq, V.ty.injEq, D.bl.injEq, D.int.injEq, D.str.injEq, D.tup.injEq, D.lst.injEq, Bool.true_eq_false, Bool.false_eq_true, if_true, if_false, ite_true, ite_false, reduceIte, reduceCtorEq, false_or, or_false, itemsD_tup, itemsD_lst, itemsD_dic, exists_const, addP_int, addP_str, addP_tup, addP_lst, cmpP_int, intP_int, slD_tup, slD_lst, lenD_tup, lenD_lst, lenD_str]
    refine ⟨A.a, rfl, _, hA.o, _, gf4 _ _ _ _, A.n, rfl, ⟨_, hA.n⟩, by decide, _, hA.n, fun hz => ⟨by rw [List.length_map]; omega, ?_⟩⟩
    have ea : updS s A.n (.lst (dl.map Deed.d ++ [.tup [.str "keep", .int (m : Nat)]])) A.a = _ := (updS_ne hA.an).trans hA.o
    have el : updS s A.n (.lst (dl.map Deed.d ++ [.tup [.str "keep", .int (m : Nat)]])) A.l = _ := (updS_ne hA.ln).trans hA.l
    have er : updS s A.n (.lst (dl.map Deed.d ++ [.tup [.str "keep", .int (m : Nat)]])) A.r = _ := (updS_ne hA.ne).trans hA.r
    refine ⟨A.a, rfl, _, ea, _, gf2 _ _ _ _, _, cut_to _ m, A.a, rfl, _, ea, by show 4 < 1000; decide, ?_⟩
    refine h _ ⟨?_, ?_, ?_, ?_, hA.ne⟩ (FrD.trans (fr_upd (.inr (.inr (.inr rfl)))) (fr_upd (.inl rfl)))
    · rw [stD_snoc, updS_same, sf2]
      rfl
    · rw [stD_snoc]
      exact (updS_ne hA.al.symm).trans el
    · rw [stD_snoc]
      exact (updS_ne hA.ar.symm).trans er
    · rw [updS_ne hA.an.symm, updS_same, ← n_snoc]
      rfl
  | _ => cases ha

theorem ok_Disk_set_root {CDisk : Addr} (T : Bn mg) (F_Disk : ClF K CDisk fs_Disk) (Df : MDef K CDisk "set_root" "Disk.set_root" s_Disk_set_root ["self", "slot", "line"])    : Mth P w K mg base CX0 CDisk "set_root" 1 ["self", "slot", "line"] (spD ⟨P, w, K⟩ (Wc ⟨P, w, K⟩) 3 (o_deed CDisk a_set_root)) := by
  have S := sc_Disk_set_root
  refine Df.okW S rfl fun f cdv A outer s H E B hr => ?_
  refine ⟨_, (dss_cons (ds_expr (de_bmC (Sub.self ⟨P, w, K⟩) PySem.F.slot_list_append PySem.F.type_list_append ow_append (de_fld (Sub.self ⟨P, w, K⟩) F_Disk (by decide) (dv 0)) (da_cons (de_tup (da_cons de_str (da_cons (dv 1) (da_cons (dv 2) da_nil)))) da_nil))) (dss_one (ds_setixC (Sub.self ⟨P, w, K⟩) (de_fld (Sub.self ⟨P, w, K⟩) F_Disk (by decide) (dv 0)) (dv 1) (dv 2)))), ?_⟩
  rintro ds s R hl ⟨A, dl, x, as, ha, rfl, hA, hb, h⟩
  have hzl := sizeLine_eq
  obtain ⟨hb1, hb2⟩ := okL_snoc hb
  obtain ⟨hs1, hs2, hs3, hs4⟩ := st_facts dl hb1.2
  have hb3 := hb1.1
  cases x with
  | root i l =>
    cases ha
    simp only [dWhile, dParDF, dParFD, dPar3, dMetS, dCallX, dRaise, dInDO, dIxDO, dLstRg, dTupRg, dCallHX, dRet, dRetN, dSeq, dIfS, dSet, dPar, dAug, dFor, dDrop, dDropM, dSetM, dSetF, fLst, fItems, mBm, dNewD, dPutO, dNext, dBreak, dCont, dAndV, dOrV, dNotV, dAnd, dOr, dNot, dB, dIf, dTup, dLst, dOp, dUn, dCallP, dCall, lfP, dCons, dNil, dVar, dC, dChain, dOpO, dCallO, dItems, dEnum, dRange1, dRange2, dLc, dLc2, dNoPart, dPart, dSl, dTru, gtName, gtTup, gtCons, gtNil, dYes, dGet, dGetO, dRevT, dRevL, lcBody, lcOut, lcIn, wipeD, dFld, dSetFld, dAugFld, dMeth, dMethX, dMake, dNewDc, dNewLc, dBmC, dOpC, dCallC, dSeqC, dIxC, dDGet, dDPut, dDDel, dDIn, dDGet2, dDPop2, dDLen, dDSort, dEqE, dSetIx, dSlC, dDictP, dLock, kAny, kKeys, dForK, dLcK, self_get, self_put, snd_get, snd_put, okV, okFst, okVX, List.map_cons, List.map_nil, List.cons_append, List.nil_append, List.length_cons, List.length_nil, Nat.reduceAdd, Nat.reduceSub, Nat.zero_add, Nat.sub_self, List.replicate_zero, List.replicate_succ, List.getElem?_cons_zero, List.getElem?_cons_succ, List.set_cons_zero, List.set_cons_succ, Option.some.injEq, Dv.Slot.d.injEq, Dv.Slot.own.injEq, Ob.lst.injEq, Ob.dic.injEq, exists_eq_left', exists_eq_left, exists_and_left, List.cons.injEq, and_true, true_and, and_assoc, D.raw.injEq, V.ty.injEq, D.bl.injEq, D.int.injEq, D.str.injEq, D.tup.injEq, D.lst.injEq, Bool.true_eq_false, Bool.false_eq_true, if_true, if_false, ite_true, ite_false, reduceIte, reduceCtorEq, false_or, or_false, itemsD_tup, itemsD_lst, itemsD_dic, exists_const, addP_int, addP_str, addP_tup, addP_lst, cmpP_int, intP_int, slD_tup, slD_lst, lenD_tup, lenD_lst, lenD_str]
    refine ⟨A.a, rfl, _, hA.o, _, gf4 _ _ _ _, A.n, rfl, ⟨_, hA.n⟩, by decide, _, hA.n, fun hz => ⟨by rw [List.length_map]; omega, ?_⟩⟩
    have ea : updS s A.n (.lst (dl.map Deed.d ++ [.tup [.str "root", .int (i : Nat), lineD l]])) A.a = _ := (updS_ne hA.an).trans hA.o
    have el : updS s A.n (.lst (dl.map Deed.d ++ [.tup [.str "root", .int (i : Nat), lineD l]])) A.l = _ := (updS_ne hA.ln).trans hA.l
    have er : updS s A.n (.lst (dl.map Deed.d ++ [.tup [.str "root", .int (i : Nat), lineD l]])) A.r = _ := (updS_ne hA.ne).trans hA.r
    refine ⟨A.a, rfl, _, ea, _, gf3 _ _ _ _, A.r, rfl, _, er, i, by rw [List.length_map]; exact ix01 hs3 hb2.2, ?_⟩
    refine h _ ⟨?_, ?_, ?_, ?_, hA.ne⟩ (FrD.trans (fr_upd (.inr (.inr (.inr rfl)))) (fr_upd (.inr (.inr (.inl rfl)))))
    · rw [stD_snoc]
      exact (updS_ne hA.ar).trans ea
    · rw [stD_snoc]
      exact (updS_ne hA.lr).trans el
    · rw [stD_snoc, updS_same, ← List.map_set]
      rfl
    · rw [updS_ne hA.ne.symm, updS_same, ← n_snoc]
      rfl
  | _ => cases ha

theorem ok_Disk_free {CDisk : Addr} (T : Bn mg) (F_Disk : ClF K CDisk fs_Disk) (Df : MDef K CDisk "free" "Disk.free" s_Disk_free ["self", "pages"])    : Mth P w K mg base CX0 CDisk "free" 1 ["self", "pages"] (spD ⟨P, w, K⟩ (Wc ⟨P, w, K⟩) 2 (o_deed CDisk a_free)) := by
  have S := sc_Disk_free
  refine Df.okW S rfl fun f cdv A outer s H E B hr => ?_
  refine ⟨_, (dss_cons (ds_expr (de_bmC (Sub.self ⟨P, w, K⟩) PySem.F.slot_list_append PySem.F.type_list_append ow_append (de_fld (Sub.self ⟨P, w, K⟩) F_Disk (by decide) (dv 0)) (da_cons (de_tup (da_cons de_str (da_cons (dv 1) da_nil))) da_nil))) (dss_one (ds_for PassesOwn.never rfl (di_val (dv 1)) (dg_name (i := 2) S.nd rfl (by first | exact .inl rfl | exact .inr rfl)) (dss_one (ds_expr (de_dpop2C (Sub.self ⟨P, w, K⟩) (de_fld (Sub.self ⟨P, w, K⟩) F_Disk (by decide) (dv 0)) (dv 2) de_non)))))), ?_⟩
  rintro ds s R hl ⟨A, dl, x, as, ha, rfl, hA, hb, h⟩
  have hzl := sizeLine_eq
  obtain ⟨hb1, hb2⟩ := okL_snoc hb
  obtain ⟨hs1, hs2, hs3, hs4⟩ := st_facts dl hb1.2
  have hb3 := hb1.1
  cases x with
  | free q =>
    cases ha
    simp only [dWhile, dParDF, dParFD, dPar3, dMetS, dCallX, dRaise, dInDO, dIxDO, dLstRg, dTupRg, dCallHX, dRet, dRetN, dSeq, dIfS, dSet, dPar, dAug, dFor, dDrop, dDropM, dSetM, dSetF, fLst, fItems, mBm, dNewD, dPutO, dNext, dBreak, dCont, dAndV, dOrV, dNotV, dAnd, dOr, dNot, dB, dIf, dTup, dLst, dOp, dUn, dCallP, dCall, lfP, dCons, dNil, dVar, dC, dChain, dOpO, dCallO, dItems, dEnum, dRange1, dRange2, dLc, dLc2, dNoPart, dPart, dSl, dTru, gtName, gtTup, gtCons, gtNil, dYes, dGet, dGetO, dRevT, dRevL, lcBody, lcOut, lcIn, wipeD, dFld, dSetFld, dAugFld, dMeth, dMethX, dMake, dNewDc, dNewLc, dBmC, dOpC, dCallC, dSeqC, dIxC, dDGet, dDPut, dDDel, dDIn, dDGet2, dDPop2, dDLen, dDSort, dEqE, dSetIx, dSlC, dDictP, dLock, kAny, kKeys, dForK, dLcK, self_get, self_put, snd_get, snd_put, okV, okFst, okVX, List.map_cons, List.map_nil, List.cons_append, List.nil_append, List.length_cons, List.length_nil, Nat.reduceAdd, Nat.reduceSub, Nat.zero_add, Nat.sub_self, List.replicate_zero, List.replicate_succ, List.getElem?_cons_zero, List.getElem?_cons_succ, List.set_cons_zero, List.set_cons_succ, Option.some.injEq, Dv.Slot.d.injEq, Dv.Slot.own.injEq, Ob.lst.injEq, Ob.dic.injEq, exists_eq_left', exists_eq_left, exists_and_left, List.cons.injEq, and_true, true_and, and_assoc, D.raw.injEq, V.ty.injEq, D.bl.injEq, D.int.injEq, D.str.injEq, D.tup.injEq, D.lst.injEq, Bool.true_eq_false, Bool.false_eq_true, if_true, if_false, ite_true, ite_false, reduceIte, reduceCtorEq, false_or, or_false, itemsD_tup, itemsD_lst, itemsD_dic, exists_const, addP_int, addP_str, addP_tup, addP_lst, cmpP_int, intP_int, slD_tup, slD_lst, lenD_tup, lenD_lst, lenD_str]
    refine ⟨A.a, rfl, _, hA.o, _, gf4 _ _ _ _, A.n, rfl, ⟨_, hA.n⟩, by decide, _, hA.n, fun hz => ⟨by rw [List.length_map]; omega, ?_⟩⟩
    have ea : updS s A.n (.lst (dl.map Deed.d ++ [.tup [.str "free", .tup [.int q]]])) A.a = _ := (updS_ne hA.an).trans hA.o
    have el : updS s A.n (.lst (dl.map Deed.d ++ [.tup [.str "free", .tup [.int q]]])) A.l = _ := (updS_ne hA.ln).trans hA.l
    have er : updS s A.n (.lst (dl.map Deed.d ++ [.tup [.str "free", .tup [.int q]]])) A.r = _ := (updS_ne hA.ne).trans hA.r
    intro _
    simp only [dWhile, dParDF, dParFD, dPar3, dMetS, dCallX, dRaise, dInDO, dIxDO, dLstRg, dTupRg, dCallHX, dRet, dRetN, dSeq, dIfS, dSet, dPar, dAug, dFor, dDrop, dDropM, dSetM, dSetF, fLst, fItems, mBm, dNewD, dPutO, dNext, dBreak, dCont, dAndV, dOrV, dNotV, dAnd, dOr, dNot, dB, dIf, dTup, dLst, dOp, dUn, dCallP, dCall, lfP, dCons, dNil, dVar, dC, dChain, dOpO, dCallO, dItems, dEnum, dRange1, dRange2, dLc, dLc2, dNoPart, dPart, dSl, dTru, gtName, gtTup, gtCons, gtNil, dYes, dGet, dGetO, dRevT, dRevL, lcBody, lcOut, lcIn, wipeD, dFld, dSetFld, dAugFld, dMeth, dMethX, dMake, dNewDc, dNewLc, dBmC, dOpC, dCallC, dSeqC, dIxC, dDGet, dDPut, dDDel, dDIn, dDGet2, dDPop2, dDLen, dDSort, dEqE, dSetIx, dSlC, dDictP, dLock, kAny, kKeys, dForK, dLcK, self_get, self_put, snd_get, snd_put, okV, okFst, okVX, List.map_cons, List.map_nil, List.cons_append, List.nil_append, List.length_cons, List.length_nil, Nat.reduceAdd, Nat.reduceSub, Nat.zero_add, Nat.sub_self, List.replicate_zero, List.replicate_succ, List.getElem?_cons_zero, List.getElem?_cons_succ, List.set_cons_zero, List.set_cons_succ, Option.some.injEq, Dv.Slot.d.injEq, Dv.Slot.own.injEq, Ob.lst.injEq, Ob.dic.injEq, exists_eq_left', exists_eq_left, exists_and_left, List.cons.injEq, and_true, true_and, and_assoc, D.raw.injEq, V.ty.injEq, D.bl.injEq, D.int.injEq, D.str.injEq, D.tup.injEq, D.lst.injEq, Bool.true_eq_false, Bool.false_eq_true, if_true, if_false, ite_true, ite_false, reduceIte, reduceCtorEq, false_or, or_false, itemsD_tup, itemsD_lst, itemsD_dic, exists_const, addP_int, addP_str, addP_tup, addP_lst, cmpP_int, intP_int, slD_tup, slD_lst, lenD_tup, lenD_lst, lenD_str, forGo]
    refine ⟨A.a, rfl, _, ea, _, gf1 _ _ _ _, A.l, rfl, _, el, _, el, .inl q, rfl, fun v hv => ?_, fun hv => ?_⟩
    · refine h _ ⟨?_, ?_, ?_, ?_, hA.ne⟩ (FrD.trans (fr_upd (.inr (.inr (.inr rfl)))) (fr_upd (.inr (.inl rfl))))
      · rw [stD_snoc]
        exact (updS_ne hA.al).trans ea
      · rw [stD_snoc, updS_same, dropD_pk]
        rfl
      · rw [stD_snoc]
        exact (updS_ne hA.lr.symm).trans er
      · rw [updS_ne hA.ln.symm, updS_same, ← n_snoc]
        rfl
    · have e0 : getP (stD dl).pages q = none := by
        rw [valD_pk, Option.map_eq_none_iff] at hv
        exact hv
      have e1 := getP_none e0
      refine h _ ⟨?_, ?_, ?_, ?_, hA.ne⟩ (fr_upd (.inr (.inr (.inr rfl))))
      · rw [stD_snoc]
        exact ea
      · rw [stD_snoc]
        show _ = some (Cell.dct ((dropP (stD dl).pages q).map pk))
        rw [e1]
        exact el
      · rw [stD_snoc]
        exact er
      · rw [updS_same, ← n_snoc]
        rfl
  | _ => cases ha

theorem ok_Disk_log {CDisk : Addr} (T : Bn mg) (F_Disk : ClF K CDisk fs_Disk) (Df : MDef K CDisk "log" "Disk.log" s_Disk_log ["self"])    : Mth P w K mg base CX0 CDisk "log" 1 ["self"] (spD ⟨P, w, K⟩ (Wc ⟨P, w, K⟩) 1 (o_disk CDisk [] fun dl Q => Q (lineD (stD dl).log))) := by
  have S := sc_Disk_log
  refine Df.okW S rfl fun f cdv A outer s H E B hr => ?_
  refine ⟨_, (dss_one (ds_ret (de_fld (Sub.self ⟨P, w, K⟩) F_Disk (by decide) (dv 0)))), ?_⟩
  rintro ds s R hl ⟨A, dl, rfl, hA, hb, h⟩
  have hzl := sizeLine_eq
  obtain ⟨hs1, hs2, hs3, hs4⟩ := st_facts dl hb.2
  have hb3 := hb.1
  simp only [dWhile, dParDF, dParFD, dPar3, dMetS, dCallX, dRaise, dInDO, dIxDO, dLstRg, dTupRg, dCallHX, dRet, dRetN, dSeq, dIfS, dSet, dPar, dAug, dFor, dDrop, dDropM, dSetM, dSetF, fLst, fItems, mBm, dNewD, dPutO, dNext, dBreak, dCont, dAndV, dOrV, dNotV, dAnd, dOr, dNot, dB, dIf, dTup, dLst, dOp, dUn, dCallP, dCall, lfP, dCons, dNil, dVar, dC, dChain, dOpO, dCallO, dItems, dEnum, dRange1, dRange2, dLc, dLc2, dNoPart, dPart, dSl, dTru, gtName, gtTup, gtCons, gtNil, dYes, dGet, dGetO, dRevT, dRevL, lcBody, lcOut, lcIn, wipeD, dFld, dSetFld, dAugFld, dMeth, dMethX, dMake, dNewDc, dNewLc, dBmC, dOpC, dCallC, dSeqC, dIxC, dDGet, dDPut, dDDel, dDIn, dDGet2, dDPop2, dDLen, dDSort, dEqE, dSetIx, dSlC, dDictP, dLock, kAny, kKeys, dForK, dLcK, self_get, self_put, snd_get, snd_put, okV, okFst, okVX, List.map_cons, List.map_nil, List.cons_append, List.nil_append, List.length_cons, List.length_nil, Nat.reduceAdd, Nat.reduceSub, Nat.zero_add, Nat.sub_self, List.replicate_zero, List.replicate_succ, List.getElem?_cons_zero, List.getElem?_cons_succ, List.set_cons_zero, List.set_cons_succ, Option.some.injEq, Dv.Slot.d.injEq, Dv.Slot.own.injEq, Ob.lst.injEq, Ob.dic.injEq, exists_eq_left', exists_eq_left, exists_and_left, List.cons.injEq, and_true, true_and, and_assoc, D.raw.injEq, V.ty.injEq, D.bl.injEq, D.int.injEq, D.str.injEq, D.tup.injEq, D.lst.injEq, Bool.true_eq_false, Bool.false_eq_true, if_true, if_false, ite_true, ite_false, reduceIte, reduceCtorEq, false_or, or_false, itemsD_tup, itemsD_lst, itemsD_dic, exists_const, addP_int, addP_str, addP_tup, addP_lst, cmpP_int, intP_int, slD_tup, slD_lst, lenD_tup, lenD_lst, lenD_str]
  exact ⟨A.a, rfl, _, hA.o, _, gf2 _ _ _ _, h⟩

theorem ok_Disk_root {CDisk : Addr} (T : Bn mg) (F_Disk : ClF K CDisk fs_Disk) (Df : MDef K CDisk "root" "Disk.root" s_Disk_root ["self", "slot"])    : Mth P w K mg base CX0 CDisk "root" 1 ["self", "slot"] (spD ⟨P, w, K⟩ (Wc ⟨P, w, K⟩) 2 (fun ds s R => ∃ i : Nat, i < 2 ∧ o_disk CDisk [.int (i : Nat)] (fun dl Q => Q (lineD ((stD dl).roots[i]?.getD []))) ds s R)) := by
  have S := sc_Disk_root
  refine Df.okW S rfl fun f cdv A outer s H E B hr => ?_
  refine ⟨_, (dss_one (ds_ret (de_ixC (Sub.self ⟨P, w, K⟩) (de_fld (Sub.self ⟨P, w, K⟩) F_Disk (by decide) (dv 0)) (dv 1)))), ?_⟩
  rintro ds s R hl ⟨i, hi, hoo⟩
  revert hoo
  rintro ⟨A, dl, rfl, hA, hb, h⟩
  have hzl := sizeLine_eq
  obtain ⟨hs1, hs2, hs3, hs4⟩ := st_facts dl hb.2
  have hb3 := hb.1
  simp only [dWhile, dParDF, dParFD, dPar3, dMetS, dCallX, dRaise, dInDO, dIxDO, dLstRg, dTupRg, dCallHX, dRet, dRetN, dSeq, dIfS, dSet, dPar, dAug, dFor, dDrop, dDropM, dSetM, dSetF, fLst, fItems, mBm, dNewD, dPutO, dNext, dBreak, dCont, dAndV, dOrV, dNotV, dAnd, dOr, dNot, dB, dIf, dTup, dLst, dOp, dUn, dCallP, dCall, lfP, dCons, dNil, dVar, dC, dChain, dOpO, dCallO, dItems, dEnum, dRange1, dRange2, dLc, dLc2, dNoPart, dPart, dSl, dTru, gtName, gtTup, gtCons, gtNil, dYes, dGet, dGetO, dRevT, dRevL, lcBody, lcOut, lcIn, wipeD, dFld, dSetFld, dAugFld, dMeth, dMethX, dMake, dNewDc, dNewLc, dBmC, dOpC, dCallC, dSeqC, dIxC, dDGet, dDPut, dDDel, dDIn, dDGet2, dDPop2, dDLen, dDSort, dEqE, dSetIx, dSlC, dDictP, dLock, kAny, kKeys, dForK, dLcK, self_get, self_put, snd_get, snd_put, okV, okFst, okVX, List.map_cons, List.map_nil, List.cons_append, List.nil_append, List.length_cons, List.length_nil, Nat.reduceAdd, Nat.reduceSub, Nat.zero_add, Nat.sub_self, List.replicate_zero, List.replicate_succ, List.getElem?_cons_zero, List.getElem?_cons_succ, List.set_cons_zero, List.set_cons_succ, Option.some.injEq, Dv.Slot.d.injEq, Dv.Slot.own.injEq, Ob.lst.injEq, Ob.dic.injEq, exists_eq_left', exists_eq_left, exists_and_left, List.cons.injEq, and_true, true_and, and_assoc, D.raw.injEq, V.ty.injEq, D.bl.injEq, D.int.injEq, D.str.injEq, D.tup.injEq, D.lst.injEq, Bool.true_eq_false, Bool.false_eq_true, if_true, if_false, ite_true, ite_false, reduceIte, reduceCtorEq, false_or, or_false, itemsD_tup, itemsD_lst, itemsD_dic, exists_const, addP_int, addP_str, addP_tup, addP_lst, cmpP_int, intP_int, slD_tup, slD_lst, lenD_tup, lenD_lst, lenD_str]
  have hx : (stD dl).roots[i]? = some (stD dl).roots[i] := List.getElem?_eq_getElem (by omega)
  refine ⟨A.a, rfl, _, hA.o, _, gf3 _ _ _ _, A.r, rfl, _, hA.r, _, L2.atI_nat (by rw [List.getElem?_map, hx]; rfl), ?_⟩
  rw [hx] at h
  exact h

theorem ok_Disk_deeds {CDisk : Addr} (T : Bn mg) (F_Disk : ClF K CDisk fs_Disk) (Df : MDef K CDisk "deeds" "Disk.deeds" s_Disk_deeds ["self"])    : Mth P w K mg base CX0 CDisk "deeds" 1 ["self"] (spD ⟨P, w, K⟩ (Wc ⟨P, w, K⟩) 1 (o_disk CDisk [] fun dl Q => Q (.tup (dl.map Deed.d)))) := by
  have S := sc_Disk_deeds
  refine Df.okW S rfl fun f cdv A outer s H E B hr => ?_
  refine ⟨_, (dss_one (ds_ret (de_tupleC (Sub.self ⟨P, w, K⟩) rfl T.b_tuple (de_fld (Sub.self ⟨P, w, K⟩) F_Disk (by decide) (dv 0))))), ?_⟩
  rintro ds s R hl ⟨A, dl, rfl, hA, hb, h⟩
  have hzl := sizeLine_eq
  obtain ⟨hs1, hs2, hs3, hs4⟩ := st_facts dl hb.2
  have hb3 := hb.1
  simp only [dWhile, dParDF, dParFD, dPar3, dMetS, dCallX, dRaise, dInDO, dIxDO, dLstRg, dTupRg, dCallHX, dRet, dRetN, dSeq, dIfS, dSet, dPar, dAug, dFor, dDrop, dDropM, dSetM, dSetF, fLst, fItems, mBm, dNewD, dPutO, dNext, dBreak, dCont, dAndV, dOrV, dNotV, dAnd, dOr, dNot, dB, dIf, dTup, dLst, dOp, dUn, dCallP, dCall, lfP, dCons, dNil, dVar, dC, dChain, dOpO, dCallO, dItems, dEnum, dRange1, dRange2, dLc, dLc2, dNoPart, dPart, dSl, dTru, gtName, gtTup, gtCons, gtNil, dYes, dGet, dGetO, dRevT, dRevL, lcBody, lcOut, lcIn, wipeD, dFld, dSetFld, dAugFld, dMeth, dMethX, dMake, dNewDc, dNewLc, dBmC, dOpC, dCallC, dSeqC, dIxC, dDGet, dDPut, dDDel, dDIn, dDGet2, dDPop2, dDLen, dDSort, dEqE, dSetIx, dSlC, dDictP, dLock, kAny, kKeys, dForK, dLcK, self_get, self_put, snd_get, snd_put, okV, okFst, okVX, List.map_cons, List.map_nil, List.cons_append, List.nil_append, List.length_cons, List.length_nil, Nat.reduceAdd, Nat.reduceSub, Nat.zero_add, Nat.sub_self, List.replicate_zero, List.replicate_succ, List.getElem?_cons_zero, List.getElem?_cons_succ, List.set_cons_zero, List.set_cons_succ, Option.some.injEq, Dv.Slot.d.injEq, Dv.Slot.own.injEq, Ob.lst.injEq, Ob.dic.injEq, exists_eq_left', exists_eq_left, exists_and_left, List.cons.injEq, and_true, true_and, and_assoc, D.raw.injEq, V.ty.injEq, D.bl.injEq, D.int.injEq, D.str.injEq, D.tup.injEq, D.lst.injEq, Bool.true_eq_false, Bool.false_eq_true, if_true, if_false, ite_true, ite_false, reduceIte, reduceCtorEq, false_or, or_false, itemsD_tup, itemsD_lst, itemsD_dic, exists_const, addP_int, addP_str, addP_tup, addP_lst, cmpP_int, intP_int, slD_tup, slD_lst, lenD_tup, lenD_lst, lenD_str]
  exact ⟨A.a, rfl, _, hA.o, _, gf4 _ _ _ _, A.n, rfl, _, hA.n, h⟩

theorem ok_Disk_pages {CDisk : Addr} (T : Bn mg) (F_Disk : ClF K CDisk fs_Disk) (Df : MDef K CDisk "pages" "Disk.pages" s_Disk_pages ["self"])    : Mth P w K mg base CX0 CDisk "pages" 1 ["self"] (spD ⟨P, w, K⟩ (Wc ⟨P, w, K⟩) 1 (o_disk CDisk [] fun dl Q => dl.length < 64 ∧ ∀ ys : List Int, ys.Perm ((stD dl).pages.map (·.1)) → ys.Pairwise (· ≤ ·) → Q (.tup (ys.map .int)))) := by
  have S := sc_Disk_pages
  refine Df.okW S rfl fun f cdv A outer s H E B hr => ?_
  refine ⟨_, (dss_one (ds_ret (de_callTy cd_tuple rfl T.b_tuple rfl (da_cons (de_sortedDC (Sub.self ⟨P, w, K⟩) rfl rfl T.b_sorted (de_fld (Sub.self ⟨P, w, K⟩) F_Disk (by decide) (dv 0))) da_nil)))), ?_⟩
  rintro ds s R hl ⟨A, dl, rfl, hA, hb, h64, h⟩
  have hzl := sizeLine_eq
  obtain ⟨hs1, hs2, hs3, hs4⟩ := st_facts dl hb.2
  have hb3 := hb.1
  simp only [dWhile, dParDF, dParFD, dPar3, dMetS, dCallX, dRaise, dInDO, dIxDO, dLstRg, dTupRg, dCallHX, dRet, dRetN, dSeq, dIfS, dSet, dPar, dAug, dFor, dDrop, dDropM, dSetM, dSetF, fLst, fItems, mBm, dNewD, dPutO, dNext, dBreak, dCont, dAndV, dOrV, dNotV, dAnd, dOr, dNot, dB, dIf, dTup, dLst, dOp, dUn, dCallP, dCall, lfP, dCons, dNil, dVar, dC, dChain, dOpO, dCallO, dItems, dEnum, dRange1, dRange2, dLc, dLc2, dNoPart, dPart, dSl, dTru, gtName, gtTup, gtCons, gtNil, dYes, dGet, dGetO, dRevT, dRevL, lcBody, lcOut, lcIn, wipeD, dFld, dSetFld, dAugFld, dMeth, dMethX, dMake, dNewDc, dNewLc, dBmC, dOpC, dCallC, dSeqC, dIxC, dDGet, dDPut, dDDel, dDIn, dDGet2, dDPop2, dDLen, dDSort, dEqE, dSetIx, dSlC, dDictP, dLock, kAny, kKeys, dForK, dLcK, self_get, self_put, snd_get, snd_put, okV, okFst, okVX, List.map_cons, List.map_nil, List.cons_append, List.nil_append, List.length_cons, List.length_nil, Nat.reduceAdd, Nat.reduceSub, Nat.zero_add, Nat.sub_self, List.replicate_zero, List.replicate_succ, List.getElem?_cons_zero, List.getElem?_cons_succ, List.set_cons_zero, List.set_cons_succ, Option.some.injEq, Dv.Slot.d.injEq, Dv.Slot.own.injEq, Ob.lst.injEq, Ob.dic.injEq, exists_eq_left', exists_eq_left, exists_and_left, List.cons.injEq, and_true, true_and, and_assoc, D.raw.injEq, V.ty.injEq, D.bl.injEq, D.int.injEq, D.str.injEq, D.tup.injEq, D.lst.injEq, Bool.true_eq_false, Bool.false_eq_true, if_true, if_false, ite_true, ite_false, reduceIte, reduceCtorEq, false_or, or_false, itemsD_tup, itemsD_lst, itemsD_dic, exists_const, addP_int, addP_str, addP_tup, addP_lst, cmpP_int, intP_int, slD_tup, slD_lst, lenD_tup, lenD_lst, lenD_str]
  refine ⟨A.a, rfl, _, hA.o, _, gf1 _ _ _ _, A.l, rfl, _, hA.l, (stD dl).pages.map (·.1), by rw [List.map_map, List.map_map]; rfl, by rw [List.length_map]; omega, fun ys h1 h2 => ?_⟩
  exact h ys h1 h2

theorem ok_Disk_read {CDisk : Addr} (T : Bn mg) (F_Disk : ClF K CDisk fs_Disk) (Df : MDef K CDisk "read" "Disk.read" s_Disk_read ["self", "page"]) {C : Addr} (TB : BadC K mg "BadRow" C)   : Mth P w K mg base (L2.CX P w) CDisk "read" 1 ["self", "page"] (spX ⟨P, w, K⟩ (Wc ⟨P, w, K⟩) 2 (fun ds s R RE => ∃ (q : Int) (A : Bg.DA) (dl : List Deed), ds = [.raw (.ref A.a), .int q] ∧ DiskAt CDisk s A dl ∧ (match getP (stD dl).pages q with | some l => R (lineD l) s | none => RE (.ref C) s))) := by
  have S := sc_Disk_read
  refine Df.okX S rfl fun f cdv A outer s H E B hr xl => ?_
  refine ⟨_, (dss_cons (ds_if (dt_dninC (Sub.self ⟨P, w, K⟩) hr.u1 (dv 1) (de_fld (Sub.self ⟨P, w, K⟩) F_Disk (by decide) (dv 0))) (dss_one (ds_raise rfl xl (mk_bad TB rfl))) dss_nil) (dss_one (ds_ret (de_dgetC (Sub.self ⟨P, w, K⟩) hr.u1 (de_fld (Sub.self ⟨P, w, K⟩) F_Disk (by decide) (dv 0)) (dv 1))))), ?_⟩
  rintro ds s R RE hl ⟨q, A, dl, rfl, hA, h⟩ hB
  simp only [dWhile, dParDF, dParFD, dPar3, dMetS, dCallX, dRaise, dInDO, dIxDO, dLstRg, dTupRg, dCallHX, dRet, dRetN, dSeq, dIfS, dSet, dPar, dAug, dFor, dDrop, dDropM, dSetM, dSetF, fLst, fItems, mBm, dNewD, dPutO, dNext, dBreak, dCont, dAndV, dOrV, dNotV, dAnd, dOr, dNot, dB, dIf, dTup, dLst, dOp, dUn, dCallP, dCall, lfP, dCons, dNil, dVar, dC, dChain, dOpO, dCallO, dItems, dEnum, dRange1, dRange2, dLc, dLc2, dNoPart, dPart, dSl, dTru, gtName, gtTup, gtCons, gtNil, dYes, dGet, dGetO, dRevT, dRevL, lcBody, lcOut, lcIn, wipeD, dFld, dSetFld, dAugFld, dMeth, dMethX, dMake, dNewDc, dNewLc, dBmC, dOpC, dCallC, dSeqC, dIxC, dDGet, dDPut, dDDel, dDIn, dDGet2, dDPop2, dDLen, dDSort, dEqE, dSetIx, dSlC, dDictP, dLock, kAny, kKeys, dForK, dLcK, self_get, self_put, snd_get, snd_put, okV, okFst, okVX, List.map_cons, List.map_nil, List.cons_append, List.nil_append, List.length_cons, List.length_nil, Nat.reduceAdd, Nat.reduceSub, Nat.zero_add, Nat.sub_self, List.replicate_zero, List.replicate_succ, List.getElem?_cons_zero, List.getElem?_cons_succ, List.set_cons_zero, List.set_cons_succ, Option.some.injEq, Dv.Slot.d.injEq, Dv.Slot.own.injEq, Ob.lst.injEq, Ob.dic.injEq, exists_eq_left', exists_eq_left, exists_and_left, List.cons.injEq, and_true, true_and, and_assoc, D.raw.injEq, V.ty.injEq, D.bl.injEq, D.int.injEq, D.str.injEq, D.tup.injEq, D.lst.injEq, Bool.true_eq_false, Bool.false_eq_true, if_true, if_false, ite_true, ite_false, reduceIte, reduceCtorEq, false_or, or_false, itemsD_tup, itemsD_lst, itemsD_dic, exists_const, addP_int, addP_str, addP_tup, addP_lst, cmpP_int, intP_int, slD_tup, slD_lst, lenD_tup, lenD_lst, lenD_str]
  refine ⟨A.a, rfl, _, hA.o, _, gf1 _ _ _ _, A.l, rfl, _, hA.l, _, rfl, .inl q, rfl, ?_⟩
  rw [hB, valD_pk]
  cases e : getP (stD dl).pages q with
  | none =>
    rw [e] at h
    exact (if_pos rfl).mpr h
  | some l =>
    rw [e] at h
    refine (if_neg (by simp)).mpr ⟨A.a, rfl, _, hA.o, _, gf1 _ _ _ _, A.l, rfl, _, hA.l, _, rfl, .inl q, rfl, lineD l, ?_, h⟩
    rw [valD_pk, e]
    rfl

end
end K15

set_option Elab.async false
set_option linter.all false
set_option maxRecDepth 100000
set_option maxHeartbeats 2000000
namespace K15
open PySem L2 Dv Bg
abbrev s_Room___init__ : Stmt := (Dv.clsBody (top 1)).getD 0 (.Pass ⟨0, 0, 0, 0⟩)
theorem sc_Room___init__ : FnScope ["self", "disk", "frames", "first"] ["self", "disk", "frames", "first"] (defScope s_Room___init__) := ⟨rfl, rfl, rfl, by decide +kernel, rfl, by decide +kernel, by decide +kernel⟩
abbrev s_Room_next_page : Stmt := (Dv.clsBody (top 1)).getD 1 (.Pass ⟨0, 0, 0, 0⟩)
theorem sc_Room_next_page : FnScope ["self"] ["self"] (defScope s_Room_next_page) := ⟨rfl, rfl, rfl, by decide +kernel, rfl, by decide +kernel, by decide +kernel⟩
abbrev s_Room_held : Stmt := (Dv.clsBody (top 1)).getD 2 (.Pass ⟨0, 0, 0, 0⟩)
theorem sc_Room_held : FnScope ["self"] ["self"] (defScope s_Room_held) := ⟨rfl, rfl, rfl, by decide +kernel, rfl, by decide +kernel, by decide +kernel⟩
abbrev s_Room_save : Stmt := (Dv.clsBody (top 1)).getD 3 (.Pass ⟨0, 0, 0, 0⟩)
theorem sc_Room_save : FnScope ["self", "page"] ["self", "page"] (defScope s_Room_save) := ⟨rfl, rfl, rfl, by decide +kernel, rfl, by decide +kernel, by decide +kernel⟩
abbrev s_Room_keep : Stmt := (Dv.clsBody (top 1)).getD 4 (.Pass ⟨0, 0, 0, 0⟩)
theorem sc_Room_keep : FnScope ["self", "page", "line", "gone"] ["self", "page", "line"] (defScope s_Room_keep) := ⟨rfl, rfl, rfl, by decide +kernel, rfl, by decide +kernel, by decide +kernel⟩
abbrev s_Room_get : Stmt := (Dv.clsBody (top 1)).getD 5 (.Pass ⟨0, 0, 0, 0⟩)
theorem sc_Room_get : FnScope ["self", "page", "line"] ["self", "page"] (defScope s_Room_get) := ⟨rfl, rfl, rfl, by decide +kernel, rfl, by decide +kernel, by decide +kernel⟩
abbrev s_Room_put : Stmt := (Dv.clsBody (top 1)).getD 6 (.Pass ⟨0, 0, 0, 0⟩)
theorem sc_Room_put : FnScope ["self", "line", "page"] ["self", "line"] (defScope s_Room_put) := ⟨rfl, rfl, rfl, by decide +kernel, rfl, by decide +kernel, by decide +kernel⟩
abbrev s_Room_flush : Stmt := (Dv.clsBody (top 1)).getD 7 (.Pass ⟨0, 0, 0, 0⟩)
theorem sc_Room_flush : FnScope ["self", "page"] ["self"] (defScope s_Room_flush) := ⟨rfl, rfl, rfl, by decide +kernel, rfl, by decide +kernel, by decide +kernel⟩
abbrev s_fallen : Stmt := top 7
theorem sc_fallen : FnScope ["deeds", "many", "signs", "disk", "deed"] ["deeds", "many", "signs"] (defScope s_fallen) := ⟨rfl, rfl, rfl, by decide +kernel, rfl, by decide +kernel, by decide +kernel⟩
theorem cutM_to {α : Type} (f : α → D) (xs : List α) (k : Nat) : cutD (xs.map f) none (some (k : Nat)) = (xs.take k).map f := by
  rw [cutD, HT.sIx_none, HT.sIx_nat, List.length_map, List.drop_zero, Nat.sub_zero, ← List.map_take]
  congr 1
  rcases Nat.le_total k xs.length with h | h
  · rw [Nat.min_eq_left h]
  · rw [Nat.min_eq_right h, List.take_of_length_le (Nat.le_refl _), List.take_of_length_le h]
theorem cutM_one {α : Type} (f : α → D) (xs : List α) (k : Nat) : cutD (xs.map f) (some (k : Nat)) (some ((k : Nat) + 1 : Int)) = xs[k]?.toList.map f := by
  rw [show ((k : Nat) : Int) + 1 = ((k + 1 : Nat) : Int) by push_cast; rfl, cutD, HT.sIx_nat, HT.sIx_nat, List.length_map, ← List.map_drop, ← List.map_take]
  congr 1
  rcases Nat.lt_or_ge k xs.length with h | h
  · rw [Nat.min_eq_left (by omega), Nat.min_eq_left (by omega), show k + 1 - k = 1 by omega, List.drop_eq_getElem_cons h, List.getElem?_eq_getElem h]
    rfl
  · rw [Nat.min_eq_right (by omega), Nat.min_eq_right (by omega), Nat.sub_self, List.take_zero, List.getElem?_eq_none h]
    rfl
theorem un_upd {t : Cs} {b c : Addr} {u : Cell} (e : updS t b u c = none) : c ≠ b ∧ t c = none := by
  by_cases z : c = b
  · rw [z, updS_same] at e; cases e
  · rw [updS_ne z] at e; exact ⟨z, e⟩
theorem okL_take {dl qs rs : List Deed} (h : okL dl) (e : dl = qs ++ rs) : okL qs := by
  subst e
  obtain ⟨h1, h2⟩ := h
  rw [List.length_append] at h1
  exact ⟨by omega, fun x hx => h2 x (by simp [hx])⟩
theorem okL_add {qs : List Deed} {x : Deed} (h : okL qs) (hl : qs.length < 1000) (hx : x.sm) : okL (qs ++ [x]) :=
  ⟨by rw [List.length_append]; exact hl, fun y hy => (List.mem_append.mp hy).elim (h.2 y) fun z => by rw [List.mem_singleton.mp z]; exact hx⟩
theorem ixt0 (a : D) (r : List D) : ixD (.tup (a :: r)) 0 = some a := (L2.atI_nat (v := a) rfl : atI (a :: r) ((0 : Nat) : Int) = _)
theorem ixt1 (a b : D) (r : List D) : ixD (.tup (a :: b :: r)) 1 = some b := (L2.atI_nat (v := b) rfl : atI (a :: b :: r) ((1 : Nat) : Int) = _)
theorem ixt2 (a b c : D) (r : List D) : ixD (.tup (a :: b :: c :: r)) 2 = some c := (L2.atI_nat (v := c) rfl : atI (a :: b :: c :: r) ((2 : Nat) : Int) = _)
def dtag : Deed → Str
  | .page _ _ => "page"
  | .log _ => "log"
  | .root _ _ => "root"
  | .free _ => "free"
  | .keep _ => "keep"
theorem tag_ix (x : Deed) : ixD x.d 0 = some (.str (dtag x)) := by cases x <;> exact ixt0 _ _
theorem shp_log : shp 8 (.str "log") = true := by decide +kernel
theorem shp_root : shp 8 (.str "root") = true := by decide +kernel
theorem shp_page : shp 8 (.str "page") = true := by decide +kernel
theorem shp_free : shp 8 (.str "free") = true := by decide +kernel
theorem shp_keep : shp 8 (.str "keep") = true := by decide +kernel
theorem tag_shp (x : Deed) : shp 8 (.str (dtag x)) = true := by
  cases x with
  | page => exact shp_page
  | log => exact shp_log
  | root => exact shp_root
  | free => exact shp_free
  | keep => exact shp_keep
def isTag (x : Deed) (t : Str) : Bool := eqD (.str (dtag x)) (.str t)
theorem tag_log (x : Deed) : isTag x "log" = (match x with | .log _ => true | _ => false) := by cases x <;> rfl
theorem tag_root (x : Deed) : isTag x "root" = (match x with | .root _ _ => true | _ => false) := by cases x <;> rfl
theorem tag_page (x : Deed) : isTag x "page" = (match x with | .page _ _ => true | _ => false) := by cases x <;> rfl
theorem tag_free (x : Deed) : isTag x "free" = (match x with | .free _ => true | _ => false) := by cases x <;> rfl
section
variable {P : Program} {w : World} {K : PySem.W.Frag} {mg : Str → Option Value} {base : Heap}
theorem ok_Disk_do {CDisk : Addr} (T : Bn mg) (F_Disk : ClF K CDisk fs_Disk) (Df : MDef K CDisk "do" "Disk.do" s_Disk_do ["self", "deed"])   (M_Disk_write : Mth P w K mg base CX0 CDisk "write" 1 ["self", "page", "line"] (spD ⟨P, w, K⟩ (Wc ⟨P, w, K⟩) 3 (o_deed CDisk a_write))) (M_Disk_append : Mth P w K mg base CX0 CDisk "append" 1 ["self", "line"] (spD ⟨P, w, K⟩ (Wc ⟨P, w, K⟩) 2 (o_deed CDisk a_append))) (M_Disk_set_root : Mth P w K mg base CX0 CDisk "set_root" 1 ["self", "slot", "line"] (spD ⟨P, w, K⟩ (Wc ⟨P, w, K⟩) 3 (o_deed CDisk a_set_root))) (M_Disk_keep_log : Mth P w K mg base CX0 CDisk "keep_log" 1 ["self", "many"] (spD ⟨P, w, K⟩ (Wc ⟨P, w, K⟩) 2 (o_deed CDisk a_keep_log))) (M_Disk_free : Mth P w K mg base CX0 CDisk "free" 1 ["self", "pages"] (spD ⟨P, w, K⟩ (Wc ⟨P, w, K⟩) 2 (o_deed CDisk a_free))) : Mth P w K mg base CX0 CDisk "do" 2 ["self", "deed"] (spD ⟨P, w, K⟩ (Wc ⟨P, w, K⟩) 2 (o_deed CDisk a_do)) := by
  have S := sc_Disk_do
  refine Df.okW S rfl fun f cdv A outer s H E B hr => ?_
  refine ⟨_, (dss_one (ds_if (dt_cmp (od_eq hr.units 8) (de_ix xd_seq (dv 1) de_int) de_str) (dss_one (ds_expr (de_meth (Sub.self ⟨P, w, K⟩) F_Disk M_Disk_write (hr.mono (by decide)) (dv 0) (da_cons (de_ix xd_seq (dv 1) de_int) (da_cons (de_ix xd_seq (dv 1) de_int) da_nil))))) (dss_one (ds_if (dt_cmp (od_eq hr.units 8) (de_ix xd_seq (dv 1) de_int) de_str) (dss_one (ds_expr (de_meth (Sub.self ⟨P, w, K⟩) F_Disk M_Disk_append (hr.mono (by decide)) (dv 0) (da_cons (de_ix xd_seq (dv 1) de_int) da_nil)))) (dss_one (ds_if (dt_cmp (od_eq hr.units 8) (de_ix xd_seq (dv 1) de_int) de_str) (dss_one (ds_expr (de_meth (Sub.self ⟨P, w, K⟩) F_Disk M_Disk_set_root (hr.mono (by decide)) (dv 0) (da_cons (de_ix xd_seq (dv 1) de_int) (da_cons (de_ix xd_seq (dv 1) de_int) da_nil))))) (dss_one (ds_if (dt_cmp (od_eq hr.units 8) (de_ix xd_seq (dv 1) de_int) de_str) (dss_one (ds_expr (de_meth (Sub.self ⟨P, w, K⟩) F_Disk M_Disk_keep_log (hr.mono (by decide)) (dv 0) (da_cons (de_ix xd_seq (dv 1) de_int) da_nil)))) (dss_one (ds_expr (de_meth (Sub.self ⟨P, w, K⟩) F_Disk M_Disk_free (hr.mono (by decide)) (dv 0) (da_cons (de_ix xd_seq (dv 1) de_int) da_nil)))))))))))), ?_⟩
  rintro ds s R hl ⟨A, dl, x, as, ha, rfl, hA, hb, h⟩
  cases ha
  simp only [dWhile, dParDF, dParFD, dPar3, dMetS, dCallX, dRaise, dInDO, dIxDO, dLstRg, dTupRg, dCallHX, dRet, dRetN, dSeq, dIfS, dSet, dPar, dAug, dFor, dDrop, dDropM, dSetM, dSetF, fLst, fItems, mBm, dNewD, dPutO, dNext, dBreak, dCont, dAndV, dOrV, dNotV, dAnd, dOr, dNot, dB, dIf, dTup, dLst, dOp, dUn, dCallP, dCall, lfP, dCons, dNil, dVar, dC, dChain, dOpO, dCallO, dItems, dEnum, dRange1, dRange2, dLc, dLc2, dNoPart, dPart, dSl, dTru, gtName, gtTup, gtCons, gtNil, dYes, dGet, dGetO, dRevT, dRevL, lcBody, lcOut, lcIn, wipeD, dFld, dSetFld, dAugFld, dMeth, dMethX, dMake, dNewDc, dNewLc, dBmC, dOpC, dCallC, dSeqC, dIxC, dDGet, dDPut, dDDel, dDIn, dDGet2, dDPop2, dDLen, dDSort, dEqE, dSetIx, dSlC, dDictP, dLock, kAny, kKeys, dForK, dLcK, self_get, self_put, snd_get, snd_put, okV, okFst, okVX, List.map_cons, List.map_nil, List.cons_append, List.nil_append, List.length_cons, List.length_nil, Nat.reduceAdd, Nat.reduceSub, Nat.zero_add, Nat.sub_self, List.replicate_zero, List.replicate_succ, List.getElem?_cons_zero, List.getElem?_cons_succ, List.set_cons_zero, List.set_cons_succ, Option.some.injEq, Dv.Slot.d.injEq, Dv.Slot.own.injEq, Ob.lst.injEq, Ob.dic.injEq, exists_eq_left', exists_eq_left, exists_and_left, List.cons.injEq, and_true, true_and, and_assoc, D.raw.injEq, V.ty.injEq, D.bl.injEq, D.int.injEq, D.str.injEq, D.tup.injEq, D.lst.injEq, Bool.true_eq_false, Bool.false_eq_true, if_true, if_false, ite_true, ite_false, reduceIte, reduceCtorEq, false_or, or_false, itemsD_tup, itemsD_lst, itemsD_dic, exists_const, addP_int, addP_str, addP_tup, addP_lst, cmpP_int, intP_int, slD_tup, slD_lst, lenD_tup, lenD_lst, lenD_str]
  have i0 : ∀ (a : Str) (r : List D), ixD (.tup (.str a :: r)) 0 = some (.str a) := fun a r => (L2.atI_nat (v := D.str a) rfl : atI (D.str a :: r) ((0 : Nat) : Int) = _)
  have i1 : ∀ (a b : D) (r : List D), ixD (.tup (a :: b :: r)) 1 = some b := fun a b r => (L2.atI_nat (v := b) rfl : atI (a :: b :: r) ((1 : Nat) : Int) = _)
  have i2 : ∀ (a b c : D) (r : List D), ixD (.tup (a :: b :: c :: r)) 2 = some c := fun a b c r => (L2.atI_nat (v := c) rfl : atI (a :: b :: c :: r) ((2 : Nat) : Int) = _)
  have q1 : eqD (.str "log") (.str "page") = false := by decide +kernel
  have q2 : eqD (.str "root") (.str "page") = false := by decide +kernel
  have q3 : eqD (.str "free") (.str "page") = false := by decide +kernel
  have q4 : eqD (.str "keep") (.str "page") = false := by decide +kernel
  have q5 : eqD (.str "root") (.str "log") = false := by decide +kernel
  have q6 : eqD (.str "free") (.str "log") = false := by decide +kernel
  have q7 : eqD (.str "keep") (.str "log") = false := by decide +kernel
  have q8 : eqD (.str "free") (.str "root") = false := by decide +kernel
  have q9 : eqD (.str "keep") (.str "root") = false := by decide +kernel
  have qa : eqD (.str "free") (.str "keep") = false := by decide +kernel
  have p1 : eqD (.str "page") (.str "page") = true := by decide +kernel
  have p2 : eqD (.str "log") (.str "log") = true := by decide +kernel
  have p3 : eqD (.str "root") (.str "root") = true := by decide +kernel
  have p4 : eqD (.str "keep") (.str "keep") = true := by decide +kernel
  have s1 : shp 8 (.str "page") = true := by decide +kernel
  have s2 : shp 8 (.str "log") = true := by decide +kernel
  have s3 : shp 8 (.str "root") = true := by decide +kernel
  have s4 : shp 8 (.str "keep") = true := by decide +kernel
  have s5 : shp 8 (.str "free") = true := by decide +kernel
  cases x with
  | page q l =>
    refine ⟨_, i0 _ _, s1, s1, ?_⟩
    rw [p1]
    exact (if_pos rfl).mpr ⟨A.a, rfl, _, hA.o, rfl, _, i1 _ _ _, _, i2 _ _ _ _, A, dl, .page q l, _, rfl, rfl, hA, hb, h⟩
  | log l =>
    refine ⟨_, i0 _ _, s2, s1, ?_⟩
    rw [q1]
    refine (if_neg Bool.false_ne_true).mpr ⟨_, i0 _ _, s2, s2, ?_⟩
    rw [p2]
    exact (if_pos rfl).mpr ⟨A.a, rfl, _, hA.o, rfl, _, i1 _ _ _, A, dl, .log l, _, rfl, rfl, hA, hb, h⟩
  | root i l =>
    refine ⟨_, i0 _ _, s3, s1, ?_⟩
    rw [q2]
    refine (if_neg Bool.false_ne_true).mpr ⟨_, i0 _ _, s3, s2, ?_⟩
    rw [q5]
    refine (if_neg Bool.false_ne_true).mpr ⟨_, i0 _ _, s3, s3, ?_⟩
    rw [p3]
    exact (if_pos rfl).mpr ⟨A.a, rfl, _, hA.o, rfl, _, i1 _ _ _, _, i2 _ _ _ _, A, dl, .root i l, _, rfl, rfl, hA, hb, h⟩
  | free q =>
    refine ⟨_, i0 _ _, s5, s1, ?_⟩
    rw [q3]
    refine (if_neg Bool.false_ne_true).mpr ⟨_, i0 _ _, s5, s2, ?_⟩
    rw [q6]
    refine (if_neg Bool.false_ne_true).mpr ⟨_, i0 _ _, s5, s3, ?_⟩
    rw [q8]
    refine (if_neg Bool.false_ne_true).mpr ⟨_, i0 _ _, s5, s4, ?_⟩
    rw [qa]
    exact (if_neg Bool.false_ne_true).mpr ⟨A.a, rfl, _, hA.o, rfl, _, i1 _ _ _, A, dl, .free q, _, rfl, rfl, hA, hb, h⟩
  | keep m =>
    refine ⟨_, i0 _ _, s4, s1, ?_⟩
    rw [q4]
    refine (if_neg Bool.false_ne_true).mpr ⟨_, i0 _ _, s4, s2, ?_⟩
    rw [q7]
    refine (if_neg Bool.false_ne_true).mpr ⟨_, i0 _ _, s4, s3, ?_⟩
    rw [q9]
    refine (if_neg Bool.false_ne_true).mpr ⟨_, i0 _ _, s4, s4, ?_⟩
    rw [p4]
    exact (if_pos rfl).mpr ⟨A.a, rfl, _, hA.o, rfl, _, i1 _ _ _, A, dl, .keep m, _, rfl, rfl, hA, hb, h⟩

def fallL (dl : List Deed) (many signs : Nat) : List Deed := dl.take many ++ match dl[many]? with
  | some (.log l) => [.log (l.take signs)]
  | some (.root i l) => if 0 < signs then [.root i [255]] else []
  | _ => []
theorem okC_fallen {CDisk : Addr} (T : Bn mg) (F_Disk : ClF K CDisk fs_Disk) (Df : Def K mg "fallen" s_fallen ["deeds", "many", "signs"]) (K_Disk : Mkr P w K mg base "Disk" CDisk 1 ["self"] (spD ⟨P, w, K⟩ (Wc ⟨P, w, K⟩) 1 (fun ds s R => ∃ a, ds = [.raw (.ref a)] ∧ s a = some (.ins CDisk []) ∧ ∀ A s', A.a = a → s A.l = none → s A.r = none → s A.n = none → DiskAt CDisk s' A [] → FrD A s s' → R .non s'))) (M_Disk_do : Mth P w K mg base CX0 CDisk "do" 2 ["self", "deed"] (spD ⟨P, w, K⟩ (Wc ⟨P, w, K⟩) 2 (o_deed CDisk a_do))) (M_Disk_append : Mth P w K mg base CX0 CDisk "append" 1 ["self", "line"] (spD ⟨P, w, K⟩ (Wc ⟨P, w, K⟩) 2 (o_deed CDisk a_append))) (M_Disk_set_root : Mth P w K mg base CX0 CDisk "set_root" 1 ["self", "slot", "line"] (spD ⟨P, w, K⟩ (Wc ⟨P, w, K⟩) 3 (o_deed CDisk a_set_root))) : Cal P w K mg base "fallen" 3 ["deeds", "many", "signs"] (spD ⟨P, w, K⟩ (Wc ⟨P, w, K⟩) 3 (fun ds s R => ∃ (dl : List Deed) (many signs : Nat), ds = [.tup (dl.map Deed.d), .int (many : Nat), .int (signs : Nat)] ∧ okL dl ∧ ∀ A s', s A.a = none → s A.l = none → s A.r = none → s A.n = none → DiskAt CDisk s' A (fallL dl many signs) → FrD A s s' → R (.raw (.ref A.a)) s')) := by
  have S := sc_fallen
  refine Df.okW S rfl fun f cdv A outer s H E B hr => ?_
  refine ⟨_, (dss_cons (ds_set (i := 3) S.nd rfl (by first | exact .inl rfl | exact .inr rfl) (de_make0 (Sub.self ⟨P, w, K⟩) K_Disk (hr.mono (by decide)) rfl)) (dss_cons (ds_for PassesOwn.never rfl (di_val (de_slice sd_seq (dv 0) do_none (do_some (dv 1)))) (dg_name (i := 4) S.nd rfl (by first | exact .inl rfl | exact .inr rfl)) (dss_one (ds_expr (de_meth (Sub.self ⟨P, w, K⟩) F_Disk M_Disk_do (hr.mono (by decide)) (dv 3) (da_cons (dv 4) da_nil))))) (dss_cons (ds_for PassesOwn.never rfl (di_val (de_slice sd_seq (dv 0) (do_some (dv 1)) (do_some (de_op od_add (dv 1) de_int)))) (dg_name (i := 4) S.nd rfl (by first | exact .inl rfl | exact .inr rfl)) (dss_one (ds_if (dt_cmp (od_eq hr.units 8) (de_ix xd_seq (dv 4) de_int) de_str) (dss_one (ds_expr (de_meth (Sub.self ⟨P, w, K⟩) F_Disk M_Disk_append (hr.mono (by decide)) (dv 3) (da_cons (de_slice sd_seq (de_ix xd_seq (dv 4) de_int) do_none (do_some (dv 2))) da_nil)))) (dss_one (ds_if (dw_pt (dw_and (dt_cmp (od_eq hr.units 8) (de_ix xd_seq (dv 4) de_int) de_str) (dw_and1 (dt_cmp (od_gt hr.units) (dv 2) de_int)))) (dss_one (ds_expr (de_meth (Sub.self ⟨P, w, K⟩) F_Disk M_Disk_set_root (hr.mono (by decide)) (dv 3) (da_cons (de_ix xd_seq (dv 4) de_int) (da_cons (de_tup (da_cons de_int da_nil)) da_nil))))) dss_nil))))) (dss_one (ds_ret (dv 3)))))), ?_⟩
  rintro ds s R hl ⟨dl, many, signs, rfl, hb, h⟩
  have hzl := sizeLine_eq
  simp only [dWhile, dParDF, dParFD, dPar3, dMetS, dCallX, dRaise, dInDO, dIxDO, dLstRg, dTupRg, dCallHX, dRet, dRetN, dSeq, dIfS, dSet, dPar, dAug, dFor, dDrop, dDropM, dSetM, dSetF, fLst, fItems, mBm, dNewD, dPutO, dNext, dBreak, dCont, dAndV, dOrV, dNotV, dAnd, dOr, dNot, dB, dIf, dTup, dLst, dOp, dUn, dCallP, dCall, lfP, dCons, dNil, dVar, dC, dChain, dOpO, dCallO, dItems, dEnum, dRange1, dRange2, dLc, dLc2, dNoPart, dPart, dSl, dTru, gtName, gtTup, gtCons, gtNil, dYes, dGet, dGetO, dRevT, dRevL, lcBody, lcOut, lcIn, wipeD, dFld, dSetFld, dAugFld, dMeth, dMethX, dMake, dNewDc, dNewLc, dBmC, dOpC, dCallC, dSeqC, dIxC, dDGet, dDPut, dDDel, dDIn, dDGet2, dDPop2, dDLen, dDSort, dEqE, dSetIx, dSlC, dDictP, dLock, kAny, kKeys, dForK, dLcK, self_get, self_put, snd_get, snd_put, okV, okFst, okVX, List.map_cons, List.map_nil, List.cons_append, List.nil_append, List.length_cons, List.length_nil, Nat.reduceAdd, Nat.reduceSub, Nat.zero_add, Nat.sub_self, List.replicate_zero, List.replicate_succ, List.getElem?_cons_zero, List.getElem?_cons_succ, List.set_cons_zero, List.set_cons_succ, Option.some.injEq, Dv.Slot.d.injEq, Dv.Slot.own.injEq, Ob.lst.injEq, Ob.dic.injEq, exists_eq_left', exists_eq_left, exists_and_left, List.cons.injEq, and_true, true_and, and_assoc, D.raw.injEq, V.ty.injEq, D.bl.injEq, D.int.injEq, D.str.injEq, D.tup.injEq, D.lst.injEq, Bool.true_eq_false, Bool.false_eq_true, if_true, if_false, ite_true, ite_false, reduceIte, reduceCtorEq, false_or, or_false, itemsD_tup, itemsD_lst, itemsD_dic, exists_const, addP_int, addP_str, addP_tup, addP_lst, cmpP_int, intP_int, slD_tup, slD_lst, lenD_tup, lenD_lst, lenD_str]
  intro a ha0
  refine ⟨a, rfl, updS_same, fun A s2 ea hl0 hr0 hn0 hA hf hz => ?_⟩
  subst ea
  obtain ⟨_, hl0⟩ := un_upd hl0
  obtain ⟨_, hr0⟩ := un_upd hr0
  obtain ⟨_, hn0⟩ := un_upd hn0
  have hf : FrD A s s2 := fun b hb => (hf b hb).trans (updS_ne hb.1)
  rw [cutM_to]
  refine for_mapg (pre := []) (fun qs ρ s3 => (∃ d5, ρ = [.d (.tup (dl.map Deed.d)), .d (.int (many : Nat)), .d (.int (signs : Nat)), .d (.raw (.ref A.a)), d5]) ∧ DiskAt CDisk s3 A qs ∧ FrD A s s3) ⟨⟨_, rfl⟩, hA, hf⟩ ?_ ?_
  · rintro qs x rs e ρ s3 ⟨⟨d5, rfl⟩, hA3, hf3⟩ K1 hK1
    rw [List.nil_append] at e
    have e2 : dl = (qs ++ [x]) ++ (rs ++ dl.drop many) := by
      conv => lhs; rw [← List.take_append_drop many dl, e]
      simp
    simp only [dWhile, dParDF, dParFD, dPar3, dMetS, dCallX, dRaise, dInDO, dIxDO, dLstRg, dTupRg, dCallHX, dRet, dRetN, dSeq, dIfS, dSet, dPar, dAug, dFor, dDrop, dDropM, dSetM, dSetF, fLst, fItems, mBm, dNewD, dPutO, dNext, dBreak, dCont, dAndV, dOrV, dNotV, dAnd, dOr, dNot, dB, dIf, dTup, dLst, dOp, dUn, dCallP, dCall, lfP, dCons, dNil, dVar, dC, dChain, dOpO, dCallO, dItems, dEnum, dRange1, dRange2, dLc, dLc2, dNoPart, dPart, dSl, dTru, gtName, gtTup, gtCons, gtNil, dYes, dGet, dGetO, dRevT, dRevL, lcBody, lcOut, lcIn, wipeD, dFld, dSetFld, dAugFld, dMeth, dMethX, dMake, dNewDc, dNewLc, dBmC, dOpC, dCallC, dSeqC, dIxC, dDGet, dDPut, dDDel, dDIn, dDGet2, dDPop2, dDLen, dDSort, dEqE, dSetIx, dSlC, dDictP, dLock, kAny, kKeys, dForK, dLcK, self_get, self_put, snd_get, snd_put, okV, okFst, okVX, List.map_cons, List.map_nil, List.cons_append, List.nil_append, List.length_cons, List.length_nil, Nat.reduceAdd, Nat.reduceSub, Nat.zero_add, Nat.sub_self, List.replicate_zero, List.replicate_succ, List.getElem?_cons_zero, List.getElem?_cons_succ, List.set_cons_zero, List.set_cons_succ, Option.some.injEq, Dv.Slot.d.injEq, Dv.Slot.own.injEq, Ob.lst.injEq, Ob.dic.injEq, exists_eq_left', exists_eq_left, exists_and_left, List.cons.injEq, and_true, true_and, and_assoc, D.raw.injEq, V.ty.injEq, D.bl.injEq, D.int.injEq, D.str.injEq, D.tup.injEq, D.lst.injEq, Bool.true_eq_false, Bool.false_eq_true, if_true, if_false, ite_true, ite_false, reduceIte, reduceCtorEq, false_or, or_false, itemsD_tup, itemsD_lst, itemsD_dic, exists_const, addP_int, addP_str, addP_tup, addP_lst, cmpP_int, intP_int, slD_tup, slD_lst, lenD_tup, lenD_lst, lenD_str]
    exact ⟨A.a, rfl, _, hA3.o, rfl, A, qs, x, _, rfl, rfl, hA3, okL_take hb e2, fun s4 h4 f4 => hK1 _ _ ⟨⟨_, rfl⟩, h4, FrD.trans hf3 f4⟩⟩
  · rintro ρ s3 ⟨⟨d5, rfl⟩, hA3, hf3⟩
    rw [List.nil_append] at hA3
    have hbt : okL (dl.take many) := okL_take hb (List.take_append_drop many dl).symm
    simp only [dWhile, dParDF, dParFD, dPar3, dMetS, dCallX, dRaise, dInDO, dIxDO, dLstRg, dTupRg, dCallHX, dRet, dRetN, dSeq, dIfS, dSet, dPar, dAug, dFor, dDrop, dDropM, dSetM, dSetF, fLst, fItems, mBm, dNewD, dPutO, dNext, dBreak, dCont, dAndV, dOrV, dNotV, dAnd, dOr, dNot, dB, dIf, dTup, dLst, dOp, dUn, dCallP, dCall, lfP, dCons, dNil, dVar, dC, dChain, dOpO, dCallO, dItems, dEnum, dRange1, dRange2, dLc, dLc2, dNoPart, dPart, dSl, dTru, gtName, gtTup, gtCons, gtNil, dYes, dGet, dGetO, dRevT, dRevL, lcBody, lcOut, lcIn, wipeD, dFld, dSetFld, dAugFld, dMeth, dMethX, dMake, dNewDc, dNewLc, dBmC, dOpC, dCallC, dSeqC, dIxC, dDGet, dDPut, dDDel, dDIn, dDGet2, dDPop2, dDLen, dDSort, dEqE, dSetIx, dSlC, dDictP, dLock, kAny, kKeys, dForK, dLcK, self_get, self_put, snd_get, snd_put, okV, okFst, okVX, List.map_cons, List.map_nil, List.cons_append, List.nil_append, List.length_cons, List.length_nil, Nat.reduceAdd, Nat.reduceSub, Nat.zero_add, Nat.sub_self, List.replicate_zero, List.replicate_succ, List.getElem?_cons_zero, List.getElem?_cons_succ, List.set_cons_zero, List.set_cons_succ, Option.some.injEq, Dv.Slot.d.injEq, Dv.Slot.own.injEq, Ob.lst.injEq, Ob.dic.injEq, exists_eq_left', exists_eq_left, exists_and_left, List.cons.injEq, and_true, true_and, and_assoc, D.raw.injEq, V.ty.injEq, D.bl.injEq, D.int.injEq, D.str.injEq, D.tup.injEq, D.lst.injEq, Bool.true_eq_false, Bool.false_eq_true, if_true, if_false, ite_true, ite_false, reduceIte, reduceCtorEq, false_or, or_false, itemsD_tup, itemsD_lst, itemsD_dic, exists_const, addP_int, addP_str, addP_tup, addP_lst, cmpP_int, intP_int, slD_tup, slD_lst, lenD_tup, lenD_lst, lenD_str]
    intro _
    rw [cutM_one]
    cases e : dl[many]? with
    | none =>
      simp only [Option.toList_none, List.map_nil, forGo]
      simp only [dWhile, dParDF, dParFD, dPar3, dMetS, dCallX, dRaise, dInDO, dIxDO, dLstRg, dTupRg, dCallHX, dRet, dRetN, dSeq, dIfS, dSet, dPar, dAug, dFor, dDrop, dDropM, dSetM, dSetF, fLst, fItems, mBm, dNewD, dPutO, dNext, dBreak, dCont, dAndV, dOrV, dNotV, dAnd, dOr, dNot, dB, dIf, dTup, dLst, dOp, dUn, dCallP, dCall, lfP, dCons, dNil, dVar, dC, dChain, dOpO, dCallO, dItems, dEnum, dRange1, dRange2, dLc, dLc2, dNoPart, dPart, dSl, dTru, gtName, gtTup, gtCons, gtNil, dYes, dGet, dGetO, dRevT, dRevL, lcBody, lcOut, lcIn, wipeD, dFld, dSetFld, dAugFld, dMeth, dMethX, dMake, dNewDc, dNewLc, dBmC, dOpC, dCallC, dSeqC, dIxC, dDGet, dDPut, dDDel, dDIn, dDGet2, dDPop2, dDLen, dDSort, dEqE, dSetIx, dSlC, dDictP, dLock, kAny, kKeys, dForK, dLcK, self_get, self_put, snd_get, snd_put, okV, okFst, okVX, List.map_cons, List.map_nil, List.cons_append, List.nil_append, List.length_cons, List.length_nil, Nat.reduceAdd, Nat.reduceSub, Nat.zero_add, Nat.sub_self, List.replicate_zero, List.replicate_succ, List.getElem?_cons_zero, List.getElem?_cons_succ, List.set_cons_zero, List.set_cons_succ, Option.some.injEq, Dv.Slot.d.injEq, Dv.Slot.own.injEq, Ob.lst.injEq, Ob.dic.injEq, exists_eq_left', exists_eq_left, exists_and_left, List.cons.injEq, and_true, true_and, and_assoc, D.raw.injEq, V.ty.injEq, D.bl.injEq, D.int.injEq, D.str.injEq, D.tup.injEq, D.lst.injEq, Bool.true_eq_false, Bool.false_eq_true, if_true, if_false, ite_true, ite_false, reduceIte, reduceCtorEq, false_or, or_false, itemsD_tup, itemsD_lst, itemsD_dic, exists_const, addP_int, addP_str, addP_tup, addP_lst, cmpP_int, intP_int, slD_tup, slD_lst, lenD_tup, lenD_lst, lenD_str]
      refine h A s3 ha0 hl0 hr0 hn0 ?_ hf3
      have : fallL dl many signs = dl.take many := by rw [fallL, e, List.append_nil]
      rw [this]
      exact hA3
    | some x =>
      have hx : x ∈ dl := List.mem_of_getElem? e
      have hml : (dl.take many).length < 1000 := by
        have := (List.getElem?_eq_some_iff.mp e).1
        have := hb.1
        rw [List.length_take]
        omega
      simp only [Option.toList_some, List.map_cons, List.map_nil, forGo]
      simp only [dWhile, dParDF, dParFD, dPar3, dMetS, dCallX, dRaise, dInDO, dIxDO, dLstRg, dTupRg, dCallHX, dRet, dRetN, dSeq, dIfS, dSet, dPar, dAug, dFor, dDrop, dDropM, dSetM, dSetF, fLst, fItems, mBm, dNewD, dPutO, dNext, dBreak, dCont, dAndV, dOrV, dNotV, dAnd, dOr, dNot, dB, dIf, dTup, dLst, dOp, dUn, dCallP, dCall, lfP, dCons, dNil, dVar, dC, dChain, dOpO, dCallO, dItems, dEnum, dRange1, dRange2, dLc, dLc2, dNoPart, dPart, dSl, dTru, gtName, gtTup, gtCons, gtNil, dYes, dGet, dGetO, dRevT, dRevL, lcBody, lcOut, lcIn, wipeD, dFld, dSetFld, dAugFld, dMeth, dMethX, dMake, dNewDc, dNewLc, dBmC, dOpC, dCallC, dSeqC, dIxC, dDGet, dDPut, dDDel, dDIn, dDGet2, dDPop2, dDLen, dDSort, dEqE, dSetIx, dSlC, dDictP, dLock, kAny, kKeys, dForK, dLcK, self_get, self_put, snd_get, snd_put, okV, okFst, okVX, List.map_cons, List.map_nil, List.cons_append, List.nil_append, List.length_cons, List.length_nil, Nat.reduceAdd, Nat.reduceSub, Nat.zero_add, Nat.sub_self, List.replicate_zero, List.replicate_succ, List.getElem?_cons_zero, List.getElem?_cons_succ, List.set_cons_zero, List.set_cons_succ, Option.some.injEq, Dv.Slot.d.injEq, Dv.Slot.own.injEq, Ob.lst.injEq, Ob.dic.injEq, exists_eq_left', exists_eq_left, exists_and_left, List.cons.injEq, and_true, true_and, and_assoc, D.raw.injEq, V.ty.injEq, D.bl.injEq, D.int.injEq, D.str.injEq, D.tup.injEq, D.lst.injEq, Bool.true_eq_false, Bool.false_eq_true, if_true, if_false, ite_true, ite_false, reduceIte, reduceCtorEq, false_or, or_false, itemsD_tup, itemsD_lst, itemsD_dic, exists_const, addP_int, addP_str, addP_tup, addP_lst, cmpP_int, intP_int, slD_tup, slD_lst, lenD_tup, lenD_lst, lenD_str]
      refine ⟨_, tag_ix x, tag_shp x, shp_log, ?_⟩
      show (if isTag x "log" = true then _ else _)
      rw [tag_log]
      cases x with
      | log l =>
        have hxs := hb.2 _ hx
        have hxs : l.length ≤ 1000 := hxs
        refine (if_pos rfl).mpr ⟨A.a, rfl, _, hA3.o, rfl, _, ixt1 _ _ _, _, cut_to l signs, A, dl.take many, .log (l.take signs), _, rfl, rfl, hA3, okL_add hbt hml (by show (l.take signs).length ≤ 1000; rw [List.length_take]; omega), fun s4 h4 f4 => ?_⟩
        refine h A s4 ha0 hl0 hr0 hn0 ?_ (FrD.trans hf3 f4)
        have : fallL dl many signs = dl.take many ++ [.log (l.take signs)] := by rw [fallL, e]
        rw [this]
        exact h4
      | root i l =>
        have hxs : l.length ≤ 1000 ∧ i < 2 := hb.2 _ hx
        refine (if_neg Bool.false_ne_true).mpr ⟨_, tag_ix (.root i l), tag_shp (.root i l), shp_root, ?_⟩
        show (if isTag (.root i l) "root" = true then _ else _)
        rw [tag_root]
        refine (if_pos rfl).mpr ?_
        by_cases hs : 0 < signs
        · rw [decide_eq_true (show (0 : Int) < (signs : Nat) by omega)]
          refine (if_pos rfl).mpr ⟨A.a, rfl, _, hA3.o, rfl, _, ixt1 _ _ _, by decide, A, dl.take many, .root i [255], _, rfl, rfl, hA3, okL_add hbt hml ⟨by decide, hxs.2⟩, fun s4 h4 f4 => ?_⟩
          refine h A s4 ha0 hl0 hr0 hn0 ?_ (FrD.trans hf3 f4)
          have : fallL dl many signs = dl.take many ++ [.root i [255]] := by rw [fallL, e]; simp [hs]
          rw [this]
          exact h4
        · rw [decide_eq_false (show ¬ (0 : Int) < (signs : Nat) by omega)]
          refine (if_neg Bool.false_ne_true).mpr (h A s3 ha0 hl0 hr0 hn0 ?_ hf3)
          have : fallL dl many signs = dl.take many := by rw [fallL, e]; simp [hs]
          rw [this]
          exact hA3
      | page q l =>
        refine (if_neg Bool.false_ne_true).mpr ⟨_, tag_ix (.page q l), tag_shp (.page q l), shp_root, ?_⟩
        show (if isTag (.page q l) "root" = true then _ else _)
        rw [tag_root]
        refine (if_neg Bool.false_ne_true).mpr (h A s3 ha0 hl0 hr0 hn0 ?_ hf3)
        have : fallL dl many signs = dl.take many := by rw [fallL, e]; simp
        rw [this]
        exact hA3
      | free q =>
        refine (if_neg Bool.false_ne_true).mpr ⟨_, tag_ix (.free q), tag_shp (.free q), shp_root, ?_⟩
        show (if isTag (.free q) "root" = true then _ else _)
        rw [tag_root]
        refine (if_neg Bool.false_ne_true).mpr (h A s3 ha0 hl0 hr0 hn0 ?_ hf3)
        have : fallL dl many signs = dl.take many := by rw [fallL, e]; simp
        rw [this]
        exact hA3
      | keep q =>
        refine (if_neg Bool.false_ne_true).mpr ⟨_, tag_ix (.keep q), tag_shp (.keep q), shp_root, ?_⟩
        show (if isTag (.keep q) "root" = true then _ else _)
        rw [tag_root]
        refine (if_neg Bool.false_ne_true).mpr (h A s3 ha0 hl0 hr0 hn0 ?_ hf3)
        have : fallL dl many signs = dl.take many := by rw [fallL, e]; simp
        rw [this]
        exact hA3
end
end K15

set_option Elab.async false
set_option linter.all false
set_option maxRecDepth 100000
set_option maxHeartbeats 2000000
namespace K15
open PySem L2 Dv Bg
theorem gr_disk (B : RA) (rm : Rm) : getF "disk" (rmF B rm) = some (.raw (.ref rm.disk)) := rfl
theorem gr_frames (B : RA) (rm : Rm) : getF "frames" (rmF B rm) = some (.int rm.frames) := rfl
theorem gr_first (B : RA) (rm : Rm) : getF "first" (rmF B rm) = some (.int rm.first) := rfl
theorem gr_lines (B : RA) (rm : Rm) : getF "lines" (rmF B rm) = some (.raw (.ref B.l)) := rfl
theorem gr_order (B : RA) (rm : Rm) : getF "order" (rmF B rm) = some (.raw (.ref B.o)) := rfl
theorem gr_fresh (B : RA) (rm : Rm) : getF "fresh" (rmF B rm) = some (.raw (.ref B.f)) := rfl
theorem gr_reads (B : RA) (rm : Rm) : getF "reads" (rmF B rm) = some (.int rm.reads) := rfl
theorem gr_writes (B : RA) (rm : Rm) : getF "writes" (rmF B rm) = some (.int rm.writes) := rfl
theorem sr_first (B : RA) (rm : Rm) (i : Int) : setFD "first" (.int i) (rmF B rm) = rmF B { rm with first := i } := rfl
theorem sr_reads (B : RA) (rm : Rm) (i : Int) : setFD "reads" (.int i) (rmF B rm) = rmF B { rm with reads := i } := rfl
theorem sr_writes (B : RA) (rm : Rm) (i : Int) : setFD "writes" (.int i) (rmF B rm) = rmF B { rm with writes := i } := rfl
theorem gm_save (B : RA) (rm : Rm) : getF "save" (rmF B rm) = none := rfl
theorem gm_keep (B : RA) (rm : Rm) : getF "keep" (rmF B rm) = none := rfl
theorem gm_write (a b c d : D) : getF "write" [("lines", a), ("logged", b), ("roots", c), ("done", d)] = none := rfl
theorem gm_read (a b c d : D) : getF "read" [("lines", a), ("logged", b), ("roots", c), ("done", d)] = none := rfl
theorem rm_len (B : RA) (rm : Rm) : (rmF B rm).length < 1000 := by show 8 < 1000; decide
theorem shp_ints (xs : List Int) : ∀ x ∈ xs.map D.int, shp 8 x = true := fun x hx => by obtain ⟨i, _, rfl⟩ := List.mem_map.mp hx; exact shp_int _ _
section
variable {P : Program} {w : World} {K : PySem.W.Frag} {mg : Str → Option Value} {base : Heap}
def o_Room_save (CDisk CRoom : Addr) : OkC := (fun ds s R => ∃ A B dl rm page line, ds = [.raw (.ref B.a), .int page] ∧ RD CDisk CRoom s A B dl rm ∧ getP rm.lines page = some line ∧ page ∈ rm.fresh ∧ okL (dl ++ [.page page line]) ∧ rm.fresh.length ≤ 1000 ∧ ∀ s', RD CDisk CRoom s' A B (saveM dl rm page).1 (saveM dl rm page).2 → FrR A B s s' → R .non s')
theorem ok_Room_save {CDisk CRoom : Addr} (T : Bn mg) (F_Disk : ClF K CDisk fs_Disk) (F_Room : ClF K CRoom fs_Room) (Df : MDef K CRoom "save" "Room.save" s_Room_save ["self", "page"])   (M_Disk_write : Mth P w K mg base CX0 CDisk "write" 1 ["self", "page", "line"] (spD ⟨P, w, K⟩ (Wc ⟨P, w, K⟩) 3 (o_deed CDisk a_write))) : Mth P w K mg base CX0 CRoom "save" 2 ["self", "page"] (spD ⟨P, w, K⟩ (Wc ⟨P, w, K⟩) 2 (o_Room_save CDisk CRoom)) := by
  have S := sc_Room_save
  refine Df.okW S rfl fun f cdv A outer s H E B hr => ?_
  refine ⟨_, (dss_cons (ds_expr (de_meth (Sub.self ⟨P, w, K⟩) F_Disk M_Disk_write (hr.mono (by decide)) (de_fld (Sub.self ⟨P, w, K⟩) F_Room (by decide) (dv 0)) (da_cons (dv 1) (da_cons (de_dgetC (Sub.self ⟨P, w, K⟩) hr.u1 (de_fld (Sub.self ⟨P, w, K⟩) F_Room (by decide) (dv 0)) (dv 1)) da_nil)))) (dss_cons (ds_expr (de_bmC (Sub.self ⟨P, w, K⟩) PySem.F.slot_list_remove PySem.F.type_list_remove (ow_remove hr.u65 8) (de_fld (Sub.self ⟨P, w, K⟩) F_Room (by decide) (dv 0)) (da_cons (dv 1) da_nil))) (dss_one (ds_fldaug (Sub.self ⟨P, w, K⟩) F_Room (by decide) (dv 0) de_int)))), ?_⟩
  rintro ds s R hl ⟨A, B', dl, rm, page, line, rfl, hR, hp, hf, hb, hfl, h⟩
  have hzl := sizeLine_eq
  simp only [dWhile, dParDF, dParFD, dPar3, dMetS, dCallX, dRaise, dInDO, dIxDO, dLstRg, dTupRg, dCallHX, dRet, dRetN, dSeq, dIfS, dSet, dPar, dAug, dFor, dDrop, dDropM, dSetM, dSetF, fLst, fItems, mBm, dNewD, dPutO, dNext, dBreak, dCont, dAndV, dOrV, dNotV, dAnd, dOr, dNot, dB, dIf, dTup, dLst, dOp, dUn, dCallP, dCall, lfP, dCons, dNil, dVar, dC, dChain, dOpO, dCallO, dItems, dEnum, dRange1, dRange2, dLc, dLc2, dNoPart, dPart, dSl, dTru, gtName, gtTup, gtCons, gtNil, dYes, dGet, dGetO, dRevT, dRevL, lcBody, lcOut, lcIn, wipeD, dFld, dSetFld, dAugFld, dMeth, dMethX, dMake, dNewDc, dNewLc, dBmC, dOpC, dCallC, dSeqC, dIxC, dDGet, dDPut, dDDel, dDIn, dDGet2, dDPop2, dDLen, dDSort, dEqE, dSetIx, dSlC, dDictP, dLock, kAny, kKeys, dForK, dLcK, self_get, self_put, snd_get, snd_put, okV, okFst, okVX, List.map_cons, List.map_nil, List.cons_append, List.nil_append, List.length_cons, List.length_nil, Nat.reduceAdd, Nat.reduceSub, Nat.zero_add, Nat.sub_self, List.replicate_zero, List.replicate_succ, List.getElem?_cons_zero, List.getElem?_cons_succ, List.set_cons_zero, List.set_cons_succ, Option.some.injEq, Dv.Slot.d.injEq, Dv.Slot.own.injEq, Ob.lst.injEq, Ob.dic.injEq, exists_eq_left', exists_eq_left, exists_and_left, List.cons.injEq, and_true, true_and, and_assoc, D.raw.injEq, V.ty.injEq, D.bl.injEq, D.int.injEq, D.str.injEq, D.tup.injEq, D.lst.injEq, Bool.true_eq_false, Bool.false_eq_true, if_true, if_false, ite_true, ite_false, reduceIte, reduceCtorEq, false_or, or_false, itemsD_tup, itemsD_lst, itemsD_dic, exists_const, addP_int, addP_str, addP_tup, addP_lst, cmpP_int, intP_int, slD_tup, slD_lst, lenD_tup, lenD_lst, lenD_str]
  refine ⟨B'.a, rfl, _, hR.r.i, _, gr_disk _ _, rm.disk, rfl, _, by rw [hR.k]; exact hR.d.o, gm_write _ _ _ _, B'.a, rfl, _, hR.r.i, _, gr_lines _ _, B'.l, rfl, _, hR.r.l, _, rfl, .inl page, rfl, lineD line, by rw [valD_pk, hp]; rfl, ?_⟩
  refine ⟨A, dl, .page page line, _, rfl, by rw [hR.k], hR.d, hb, fun s1 h1 f1 => ?_⟩
  have hR1 := hR.deed h1 f1
  refine ⟨B'.a, rfl, _, hR1.r.i, _, gr_fresh _ _, B'.f, rfl, ⟨_, hR1.r.f⟩, _, hR1.r.f, fun hz => ⟨shp_int _ _, shp_ints _, by rw [inD_ints]; exact decide_eq_true hf, hz, ?_⟩⟩
  rw [remD_ints]
  have hR2 := hR1.setF (rm.fresh.erase page)
  refine ⟨B'.a, rfl, _, hR2.r.i, _, gr_writes _ _, _, hR2.r.i, rm_len _ _, ?_⟩
  rw [sr_writes]
  have hR3 := hR2.setA { rm with fresh := rm.fresh.erase page, writes := rm.writes + 1 } rfl rfl rfl rfl
  refine h _ ?_ (f1.r.trans (fr_f.trans fr_a))
  have e : lnP rm.lines page = line := by rw [lnP, hp]; rfl
  rw [saveM, e]
  exact hR3

def o_Room_keep (CDisk CRoom : Addr) : OkC := (fun ds s R => ∃ A B dl rm page line, ds = [.raw (.ref B.a), .int page, lineD line] ∧ RD CDisk CRoom s A B dl rm ∧ RI rm ∧ line.length ≤ 1000 ∧ okL dl ∧ dl.length < 1000 ∧ ∀ s', RD CDisk CRoom s' A B (evict dl (keep1 rm page line)).1 (evict dl (keep1 rm page line)).2 → FrR A B s s' → R .non s')
theorem ok_Room_keep {CDisk CRoom : Addr} (T : Bn mg) (F_Disk : ClF K CDisk fs_Disk) (F_Room : ClF K CRoom fs_Room) (Df : MDef K CRoom "keep" "Room.keep" s_Room_keep ["self", "page", "line"])   (M_Room_save : Mth P w K mg base CX0 CRoom "save" 2 ["self", "page"] (spD ⟨P, w, K⟩ (Wc ⟨P, w, K⟩) 2 (o_Room_save CDisk CRoom))) : Mth P w K mg base CX0 CRoom "keep" 3 ["self", "page", "line"] (spD ⟨P, w, K⟩ (Wc ⟨P, w, K⟩) 3 (o_Room_keep CDisk CRoom)) := by
  have S := sc_Room_keep
  refine Df.okW S rfl fun f cdv A outer s H E B hr => ?_
  refine ⟨_, (dss_cons (ds_if (dt_dinC (Sub.self ⟨P, w, K⟩) hr.u1 (dv 1) (de_fld (Sub.self ⟨P, w, K⟩) F_Room (by decide) (dv 0))) (dss_one (ds_expr (de_bmC (Sub.self ⟨P, w, K⟩) PySem.F.slot_list_remove PySem.F.type_list_remove (ow_remove hr.u65 8) (de_fld (Sub.self ⟨P, w, K⟩) F_Room (by decide) (dv 0)) (da_cons (dv 1) da_nil)))) dss_nil) (dss_cons (ds_dputC (Sub.self ⟨P, w, K⟩) hr.u1 (de_fld (Sub.self ⟨P, w, K⟩) F_Room (by decide) (dv 0)) (dv 1) (dv 2)) (dss_cons (ds_expr (de_bmC (Sub.self ⟨P, w, K⟩) PySem.F.slot_list_append PySem.F.type_list_append ow_append (de_fld (Sub.self ⟨P, w, K⟩) F_Room (by decide) (dv 0)) (da_cons (dv 1) da_nil))) (dss_one (ds_if (dt_cmp (od_gt hr.units) (de_callC (Sub.self ⟨P, w, K⟩) cd_len rfl T.b_len rfl (de_fld (Sub.self ⟨P, w, K⟩) F_Room (by decide) (dv 0))) (de_fld (Sub.self ⟨P, w, K⟩) F_Room (by decide) (dv 0))) (dss_cons (ds_set (i := 3) S.nd rfl (by first | exact .inl rfl | exact .inr rfl) (de_bmC (Sub.self ⟨P, w, K⟩) PySem.F.slot_list_pop PySem.F.type_list_pop ow_pop0 (de_fld (Sub.self ⟨P, w, K⟩) F_Room (by decide) (dv 0)) (da_cons de_int da_nil))) (dss_cons (ds_if (dt_cmpC (Sub.self ⟨P, w, K⟩) (od_in hr.u65 8) (dv 3) (de_fld (Sub.self ⟨P, w, K⟩) F_Room (by decide) (dv 0))) (dss_one (ds_expr (de_meth (Sub.self ⟨P, w, K⟩) F_Room M_Room_save (hr.mono (by decide)) (dv 0) (da_cons (dv 3) da_nil)))) dss_nil) (dss_one (ds_ddelC (Sub.self ⟨P, w, K⟩) (de_fld (Sub.self ⟨P, w, K⟩) F_Room (by decide) (dv 0)) (dv 3))))) dss_nil))))), ?_⟩
  rintro ds s R hl ⟨A, B', dl, rm, page, line, rfl, hR, hI, hln, hb, hbl, h⟩
  have hzl := sizeLine_eq
  have hlo := hI.lo
  simp only [dWhile, dParDF, dParFD, dPar3, dMetS, dCallX, dRaise, dInDO, dIxDO, dLstRg, dTupRg, dCallHX, dRet, dRetN, dSeq, dIfS, dSet, dPar, dAug, dFor, dDrop, dDropM, dSetM, dSetF, fLst, fItems, mBm, dNewD, dPutO, dNext, dBreak, dCont, dAndV, dOrV, dNotV, dAnd, dOr, dNot, dB, dIf, dTup, dLst, dOp, dUn, dCallP, dCall, lfP, dCons, dNil, dVar, dC, dChain, dOpO, dCallO, dItems, dEnum, dRange1, dRange2, dLc, dLc2, dNoPart, dPart, dSl, dTru, gtName, gtTup, gtCons, gtNil, dYes, dGet, dGetO, dRevT, dRevL, lcBody, lcOut, lcIn, wipeD, dFld, dSetFld, dAugFld, dMeth, dMethX, dMake, dNewDc, dNewLc, dBmC, dOpC, dCallC, dSeqC, dIxC, dDGet, dDPut, dDDel, dDIn, dDGet2, dDPop2, dDLen, dDSort, dEqE, dSetIx, dSlC, dDictP, dLock, kAny, kKeys, dForK, dLcK, self_get, self_put, snd_get, snd_put, okV, okFst, okVX, List.map_cons, List.map_nil, List.cons_append, List.nil_append, List.length_cons, List.length_nil, Nat.reduceAdd, Nat.reduceSub, Nat.zero_add, Nat.sub_self, List.replicate_zero, List.replicate_succ, List.getElem?_cons_zero, List.getElem?_cons_succ, List.set_cons_zero, List.set_cons_succ, Option.some.injEq, Dv.Slot.d.injEq, Dv.Slot.own.injEq, Ob.lst.injEq, Ob.dic.injEq, exists_eq_left', exists_eq_left, exists_and_left, List.cons.injEq, and_true, true_and, and_assoc, D.raw.injEq, V.ty.injEq, D.bl.injEq, D.int.injEq, D.str.injEq, D.tup.injEq, D.lst.injEq, Bool.true_eq_false, Bool.false_eq_true, if_true, if_false, ite_true, ite_false, reduceIte, reduceCtorEq, false_or, or_false, itemsD_tup, itemsD_lst, itemsD_dic, exists_const, addP_int, addP_str, addP_tup, addP_lst, cmpP_int, intP_int, slD_tup, slD_lst, lenD_tup, lenD_lst, lenD_str]
  refine ⟨B'.a, rfl, _, hR.r.i, _, gr_lines _ _, B'.l, rfl, _, hR.r.l, _, rfl, .inl page, rfl, ?_⟩
  rw [valD_pk, Option.isSome_map]
  by_cases hpl : (getP rm.lines page).isSome = true
  · rw [hpl]
    refine (if_pos rfl).mpr ⟨B'.a, rfl, _, hR.r.i, _, gr_order _ _, B'.o, rfl, ⟨_, hR.r.o⟩, _, hR.r.o, fun hz => ⟨shp_int _ _, shp_ints _, by rw [inD_ints]; exact decide_eq_true ((hI.k page).mpr hpl), hz, ?_⟩⟩
    rw [remD_ints]
    have hR1 := hR.setO (rm.order.erase page)
    have f1 : FrR A B' s (updS s B'.o (.lst ((rm.order.erase page).map .int))) := fr_o
    have hel := List.length_erase_le (a := page) (l := rm.order)
    have hll : rm.lines.length ≤ 500 := hI.ll
    refine ⟨B'.a, rfl, _, hR1.r.i, _, gr_lines _ _, B'.l, rfl, _, hR1.r.l, .inl page, rfl, by rw [List.length_map]; show rm.lines.length < _; omega, ?_⟩
    have e1 : putD (List.map pk rm.lines) (Sum.inl page) (lineD line) = (putP rm.lines page line).map pk := putD_pk _ _ _
    rw [show (putD (List.map pk ({ rm with order := rm.order.erase page } : Rm).lines) (Sum.inl page) (lineD line)) = (putP rm.lines page line).map pk from e1]
    have hR2 := hR1.setL (putP rm.lines page line)
    refine ⟨B'.a, rfl, _, hR2.r.i, _, gr_order _ _, B'.o, rfl, ⟨_, hR2.r.o⟩, _, hR2.r.o, fun hz2 => ⟨by rw [List.length_map]; show (rm.order.erase page).length < _; omega, ?_⟩⟩
    have e2 : List.map D.int (rm.order.erase page) ++ [D.int page] = (rm.order.erase page ++ [page]).map .int := by rw [List.map_append]; rfl
    rw [show (List.map D.int ({ rm with order := rm.order.erase page, lines := putP rm.lines page line } : Rm).order ++ [D.int page]) = (rm.order.erase page ++ [page]).map .int from e2]
    have hR3 := hR2.setO (rm.order.erase page ++ [page])
    have ek : ({ rm with order := rm.order.erase page ++ [page], lines := putP rm.lines page line } : Rm) = keep1 rm page line := by rw [keep1, if_pos hpl]
    have hR3 : RD CDisk CRoom _ A B' dl (keep1 rm page line) := ek ▸ hR3
    have hko : (keep1 rm page line).order = rm.order.erase page ++ [page] := by rw [← ek]
    have hkl : (keep1 rm page line).lines = putP rm.lines page line := rfl
    have hkf : (keep1 rm page line).fresh = rm.fresh := rfl
    have hkr : (keep1 rm page line).frames = rm.frames := rfl
    have f3 := f1.trans ((fr_l (A := A) (B := B') (u := .dct ((putP rm.lines page line).map pk))).trans (fr_o (u := .lst ((rm.order.erase page ++ [page]).map .int))))
    generalize hs3 : updS _ B'.o (.lst ((rm.order.erase page ++ [page]).map .int)) = s3 at hR3 f3 ⊢
    refine ⟨B'.a, rfl, _, hR3.r.i, _, gr_order _ _, B'.o, rfl, _, hR3.r.o, fun _ => ⟨rfl, B'.a, rfl, _, hR3.r.i, _, gr_frames _ _, ?_⟩⟩
    rw [List.length_map]
    simp only [dWhile, dParDF, dParFD, dPar3, dMetS, dCallX, dRaise, dInDO, dIxDO, dLstRg, dTupRg, dCallHX, dRet, dRetN, dSeq, dIfS, dSet, dPar, dAug, dFor, dDrop, dDropM, dSetM, dSetF, fLst, fItems, mBm, dNewD, dPutO, dNext, dBreak, dCont, dAndV, dOrV, dNotV, dAnd, dOr, dNot, dB, dIf, dTup, dLst, dOp, dUn, dCallP, dCall, lfP, dCons, dNil, dVar, dC, dChain, dOpO, dCallO, dItems, dEnum, dRange1, dRange2, dLc, dLc2, dNoPart, dPart, dSl, dTru, gtName, gtTup, gtCons, gtNil, dYes, dGet, dGetO, dRevT, dRevL, lcBody, lcOut, lcIn, wipeD, dFld, dSetFld, dAugFld, dMeth, dMethX, dMake, dNewDc, dNewLc, dBmC, dOpC, dCallC, dSeqC, dIxC, dDGet, dDPut, dDDel, dDIn, dDGet2, dDPop2, dDLen, dDSort, dEqE, dSetIx, dSlC, dDictP, dLock, kAny, kKeys, dForK, dLcK, self_get, self_put, snd_get, snd_put, okV, okFst, okVX, List.map_cons, List.map_nil, List.cons_append, List.nil_append, List.length_cons, List.length_nil, Nat.reduceAdd, Nat.reduceSub, Nat.zero_add, Nat.sub_self, List.replicate_zero, List.replicate_succ, List.getElem?_cons_zero, List.getElem?_cons_succ, List.set_cons_zero, List.set_cons_succ, Option.some.injEq, Dv.Slot.d.injEq, Dv.Slot.own.injEq, Ob.lst.injEq, Ob.dic.injEq, exists_eq_left', exists_eq_left, exists_and_left, List.cons.injEq, and_true, true_and, and_assoc, D.raw.injEq, V.ty.injEq, D.bl.injEq, D.int.injEq, D.str.injEq, D.tup.injEq, D.lst.injEq, Bool.true_eq_false, Bool.false_eq_true, if_true, if_false, ite_true, ite_false, reduceIte, reduceCtorEq, false_or, or_false, itemsD_tup, itemsD_lst, itemsD_dic, exists_const, addP_int, addP_str, addP_tup, addP_lst, cmpP_int, intP_int, slD_tup, slD_lst, lenD_tup, lenD_lst, lenD_str]
    by_cases hfr : (keep1 rm page line).frames < ((keep1 rm page line).order.length : Int)
    · rw [decide_eq_true hfr]
      refine (if_pos rfl).mpr ?_
      obtain ⟨gone, rest, eo⟩ : ∃ g r, (keep1 rm page line).order = g :: r := by
        rw [hko]
        cases h0 : rm.order.erase page with
        | nil => exact ⟨page, [], rfl⟩
        | cons a b => exact ⟨a, b ++ [page], rfl⟩
      have hrl : rest.length ≤ 501 := by
        have := congrArg List.length (hko.symm.trans eo)
        simp at this
        omega
      refine ⟨B'.a, rfl, _, hR3.r.i, _, gr_order _ _, B'.o, rfl, ⟨_, hR3.r.o⟩, _, hR3.r.o, fun hz3 => ⟨.int gone, rest.map .int, by rw [eo]; rfl, by rw [List.length_map]; omega, ?_⟩⟩
      have hR4 := hR3.setO rest
      have hgl : (getP (keep1 rm page line).lines gone).isSome = true := by
        rw [hkl, getP_put]
        by_cases hpg : page = gone
        · rw [if_pos hpg]; rfl
        · rw [if_neg hpg]
          have : gone ∈ rm.order.erase page ++ [page] := by rw [← hko, eo]; simp
          rcases List.mem_append.mp this with z | z
          · exact (hI.k gone).mp (List.mem_of_mem_erase z)
          · exact absurd (List.mem_singleton.mp z).symm hpg
      obtain ⟨lg, hlg⟩ := Option.isSome_iff_exists.mp hgl
      have hlgl : lg.length ≤ 1000 := by
        rw [hkl, getP_put] at hlg
        split at hlg
        · cases hlg; exact hln
        · exact hI.ln _ _ hlg
      refine ⟨B'.a, rfl, _, hR4.r.i, _, gr_fresh _ _, B'.f, rfl, _, hR4.r.f, shp_int _ _, shp_ints _, rfl, ?_⟩
      rw [inD_ints]
      by_cases hgf : gone ∈ rm.fresh
      · rw [show decide (gone ∈ ({ keep1 rm page line with order := rest } : Rm).fresh) = true from decide_eq_true hgf]
        refine (if_pos rfl).mpr ⟨B'.a, rfl, _, hR4.r.i, gm_save _ _, A, B', dl, _, gone, lg, rfl, hR4, hlg, hgf, okL_add hb hbl hlgl, Nat.le_trans hI.lf (by decide), fun s5 h5 f5 => ?_⟩
        refine ⟨B'.a, rfl, _, h5.r.i, _, gr_lines _ _, B'.l, rfl, _, h5.r.l, .inl gone, rfl, by rw [valD_pk]; show ((getP (keep1 rm page line).lines gone).map lineD).isSome = true; rw [hlg]; rfl, ?_⟩
        rw [dropD_pk]
        have hR6 := h5.setL (dropP (saveM dl { keep1 rm page line with order := rest } gone).2.lines gone)
        refine h _ ?_ (f3.trans (fr_o.trans (f5.trans fr_l)))
        have ee : evict dl (keep1 rm page line) = ((saveM dl (keep1 rm page line) gone).1, { (saveM dl (keep1 rm page line) gone).2 with order := rest, lines := dropP (saveM dl (keep1 rm page line) gone).2.lines gone }) := by
          rw [evict, if_pos hfr, eo]
          simp only [hkf]
          rw [if_pos hgf]
        rw [ee]
        exact hR6
      · rw [show decide (gone ∈ ({ keep1 rm page line with order := rest } : Rm).fresh) = false from decide_eq_false hgf]
        refine (if_neg Bool.false_ne_true).mpr ⟨B'.a, rfl, _, hR4.r.i, _, gr_lines _ _, B'.l, rfl, _, hR4.r.l, .inl gone, rfl, by rw [valD_pk]; show ((getP (keep1 rm page line).lines gone).map lineD).isSome = true; rw [hlg]; rfl, ?_⟩
        rw [dropD_pk]
        have hR6 := hR4.setL (dropP (keep1 rm page line).lines gone)
        refine h _ ?_ (f3.trans (fr_o.trans fr_l))
        have ee : evict dl (keep1 rm page line) = (dl, { keep1 rm page line with order := rest, lines := dropP (keep1 rm page line).lines gone }) := by
          rw [evict, if_pos hfr, eo]
          simp only [hkf]
          rw [if_neg hgf]
          rfl
        rw [ee]
        exact hR6
    · rw [decide_eq_false hfr]
      refine (if_neg Bool.false_ne_true).mpr (h _ ?_ f3)
      have ee : evict dl (keep1 rm page line) = (dl, keep1 rm page line) := by rw [evict, if_neg hfr]
      rw [ee]
      exact hR3
  · rw [show (getP rm.lines page).isSome = false from Bool.eq_false_iff.mpr hpl]
    refine (if_neg Bool.false_ne_true).mpr ?_
    have hR1 : RD CDisk CRoom s A B' dl { rm with order := rm.order } := hR
    have f1 : FrR A B' s s := FrR.refl
    have hll : rm.lines.length ≤ 500 := hI.ll
    refine ⟨B'.a, rfl, _, hR1.r.i, _, gr_lines _ _, B'.l, rfl, _, hR1.r.l, .inl page, rfl, by rw [List.length_map]; show rm.lines.length < _; omega, ?_⟩
    have e1 : putD (List.map pk rm.lines) (Sum.inl page) (lineD line) = (putP rm.lines page line).map pk := putD_pk _ _ _
    rw [show (putD (List.map pk ({ rm with order := rm.order } : Rm).lines) (Sum.inl page) (lineD line)) = (putP rm.lines page line).map pk from e1]
    have hR2 := hR1.setL (putP rm.lines page line)
    refine ⟨B'.a, rfl, _, hR2.r.i, _, gr_order _ _, B'.o, rfl, ⟨_, hR2.r.o⟩, _, hR2.r.o, fun hz2 => ⟨by rw [List.length_map]; show (rm.order).length < _; omega, ?_⟩⟩
    have e2 : List.map D.int (rm.order) ++ [D.int page] = (rm.order ++ [page]).map .int := by rw [List.map_append]; rfl
    rw [show (List.map D.int ({ rm with order := rm.order, lines := putP rm.lines page line } : Rm).order ++ [D.int page]) = (rm.order ++ [page]).map .int from e2]
    have hR3 := hR2.setO (rm.order ++ [page])
    have ek : ({ rm with order := rm.order ++ [page], lines := putP rm.lines page line } : Rm) = keep1 rm page line := by rw [keep1, if_neg hpl]
    have hR3 : RD CDisk CRoom _ A B' dl (keep1 rm page line) := ek ▸ hR3
    have hko : (keep1 rm page line).order = rm.order ++ [page] := by rw [← ek]
    have hkl : (keep1 rm page line).lines = putP rm.lines page line := rfl
    have hkf : (keep1 rm page line).fresh = rm.fresh := rfl
    have hkr : (keep1 rm page line).frames = rm.frames := rfl
    have f3 := f1.trans ((fr_l (A := A) (B := B') (u := .dct ((putP rm.lines page line).map pk))).trans (fr_o (u := .lst ((rm.order ++ [page]).map .int))))
    generalize hs3 : updS _ B'.o (.lst ((rm.order ++ [page]).map .int)) = s3 at hR3 f3 ⊢
    refine ⟨B'.a, rfl, _, hR3.r.i, _, gr_order _ _, B'.o, rfl, _, hR3.r.o, fun _ => ⟨rfl, B'.a, rfl, _, hR3.r.i, _, gr_frames _ _, ?_⟩⟩
    rw [List.length_map]
    simp only [dWhile, dParDF, dParFD, dPar3, dMetS, dCallX, dRaise, dInDO, dIxDO, dLstRg, dTupRg, dCallHX, dRet, dRetN, dSeq, dIfS, dSet, dPar, dAug, dFor, dDrop, dDropM, dSetM, dSetF, fLst, fItems, mBm, dNewD, dPutO, dNext, dBreak, dCont, dAndV, dOrV, dNotV, dAnd, dOr, dNot, dB, dIf, dTup, dLst, dOp, dUn, dCallP, dCall, lfP, dCons, dNil, dVar, dC, dChain, dOpO, dCallO, dItems, dEnum, dRange1, dRange2, dLc, dLc2, dNoPart, dPart, dSl, dTru, gtName, gtTup, gtCons, gtNil, dYes, dGet, dGetO, dRevT, dRevL, lcBody, lcOut, lcIn, wipeD, dFld, dSetFld, dAugFld, dMeth, dMethX, dMake, dNewDc, dNewLc, dBmC, dOpC, dCallC, dSeqC, dIxC, dDGet, dDPut, dDDel, dDIn, dDGet2, dDPop2, dDLen, dDSort, dEqE, dSetIx, dSlC, dDictP, dLock, kAny, kKeys, dForK, dLcK, self_get, self_put, snd_get, snd_put, okV, okFst, okVX, List.map_cons, List.map_nil, List.cons_append, List.nil_append, List.length_cons, List.length_nil, Nat.reduceAdd, Nat.reduceSub, Nat.zero_add, Nat.sub_self, List.replicate_zero, List.replicate_succ, List.getElem?_cons_zero, List.getElem?_cons_succ, List.set_cons_zero, List.set_cons_succ, Option.some.injEq, Dv.Slot.d.injEq, Dv.Slot.own.injEq, Ob.lst.injEq, Ob.dic.injEq, exists_eq_left', exists_eq_left, exists_and_left, List.cons.injEq, and_true, true_and, and_assoc, D.raw.injEq, V.ty.injEq, D.bl.injEq, D.int.injEq, D.str.injEq, D.tup.injEq, D.lst.injEq, Bool.true_eq_false, Bool.false_eq_true, if_true, if_false, ite_true, ite_false, reduceIte, reduceCtorEq, false_or, or_false, itemsD_tup, itemsD_lst, itemsD_dic, exists_const, addP_int, addP_str, addP_tup, addP_lst, cmpP_int, intP_int, slD_tup, slD_lst, lenD_tup, lenD_lst, lenD_str]
    by_cases hfr : (keep1 rm page line).frames < ((keep1 rm page line).order.length : Int)
    · rw [decide_eq_true hfr]
      refine (if_pos rfl).mpr ?_
      obtain ⟨gone, rest, eo⟩ : ∃ g r, (keep1 rm page line).order = g :: r := by
        rw [hko]
        cases h0 : rm.order with
        | nil => exact ⟨page, [], rfl⟩
        | cons a b => exact ⟨a, b ++ [page], rfl⟩
      have hrl : rest.length ≤ 501 := by
        have := congrArg List.length (hko.symm.trans eo)
        simp at this
        omega
      refine ⟨B'.a, rfl, _, hR3.r.i, _, gr_order _ _, B'.o, rfl, ⟨_, hR3.r.o⟩, _, hR3.r.o, fun hz3 => ⟨.int gone, rest.map .int, by rw [eo]; rfl, by rw [List.length_map]; omega, ?_⟩⟩
      have hR4 := hR3.setO rest
      have hgl : (getP (keep1 rm page line).lines gone).isSome = true := by
        rw [hkl, getP_put]
        by_cases hpg : page = gone
        · rw [if_pos hpg]; rfl
        · rw [if_neg hpg]
          have : gone ∈ rm.order ++ [page] := by rw [← hko, eo]; simp
          rcases List.mem_append.mp this with z | z
          · exact (hI.k gone).mp (z)
          · exact absurd (List.mem_singleton.mp z).symm hpg
      obtain ⟨lg, hlg⟩ := Option.isSome_iff_exists.mp hgl
      have hlgl : lg.length ≤ 1000 := by
        rw [hkl, getP_put] at hlg
        split at hlg
        · cases hlg; exact hln
        · exact hI.ln _ _ hlg
      refine ⟨B'.a, rfl, _, hR4.r.i, _, gr_fresh _ _, B'.f, rfl, _, hR4.r.f, shp_int _ _, shp_ints _, rfl, ?_⟩
      rw [inD_ints]
      by_cases hgf : gone ∈ rm.fresh
      · rw [show decide (gone ∈ ({ keep1 rm page line with order := rest } : Rm).fresh) = true from decide_eq_true hgf]
        refine (if_pos rfl).mpr ⟨B'.a, rfl, _, hR4.r.i, gm_save _ _, A, B', dl, _, gone, lg, rfl, hR4, hlg, hgf, okL_add hb hbl hlgl, Nat.le_trans hI.lf (by decide), fun s5 h5 f5 => ?_⟩
        refine ⟨B'.a, rfl, _, h5.r.i, _, gr_lines _ _, B'.l, rfl, _, h5.r.l, .inl gone, rfl, by rw [valD_pk]; show ((getP (keep1 rm page line).lines gone).map lineD).isSome = true; rw [hlg]; rfl, ?_⟩
        rw [dropD_pk]
        have hR6 := h5.setL (dropP (saveM dl { keep1 rm page line with order := rest } gone).2.lines gone)
        refine h _ ?_ (f3.trans (fr_o.trans (f5.trans fr_l)))
        have ee : evict dl (keep1 rm page line) = ((saveM dl (keep1 rm page line) gone).1, { (saveM dl (keep1 rm page line) gone).2 with order := rest, lines := dropP (saveM dl (keep1 rm page line) gone).2.lines gone }) := by
          rw [evict, if_pos hfr, eo]
          simp only [hkf]
          rw [if_pos hgf]
        rw [ee]
        exact hR6
      · rw [show decide (gone ∈ ({ keep1 rm page line with order := rest } : Rm).fresh) = false from decide_eq_false hgf]
        refine (if_neg Bool.false_ne_true).mpr ⟨B'.a, rfl, _, hR4.r.i, _, gr_lines _ _, B'.l, rfl, _, hR4.r.l, .inl gone, rfl, by rw [valD_pk]; show ((getP (keep1 rm page line).lines gone).map lineD).isSome = true; rw [hlg]; rfl, ?_⟩
        rw [dropD_pk]
        have hR6 := hR4.setL (dropP (keep1 rm page line).lines gone)
        refine h _ ?_ (f3.trans (fr_o.trans fr_l))
        have ee : evict dl (keep1 rm page line) = (dl, { keep1 rm page line with order := rest, lines := dropP (keep1 rm page line).lines gone }) := by
          rw [evict, if_pos hfr, eo]
          simp only [hkf]
          rw [if_neg hgf]
          rfl
        rw [ee]
        exact hR6
    · rw [decide_eq_false hfr]
      refine (if_neg Bool.false_ne_true).mpr (h _ ?_ f3)
      have ee : evict dl (keep1 rm page line) = (dl, keep1 rm page line) := by rw [evict, if_neg hfr]
      rw [ee]
      exact hR3

end
end K15

set_option Elab.async false
set_option linter.all false
set_option maxRecDepth 100000
set_option maxHeartbeats 2000000
namespace K15
open PySem L2 Dv Bg
theorem gm_get (B : RA) (rm : Rm) : getF "get" (rmF B rm) = none := rfl
def o_Disk_read1 (CDisk : Addr) : OkC := fun ds s R => ∃ (q : Int) (A : Bg.DA) (dl : List Deed) (l : List Nat), ds = [.raw (.ref A.a), .int q] ∧ DiskAt CDisk s A dl ∧ getP (stD dl).pages q = some l ∧ R (lineD l) s
def o_Room_next_page (CDisk CRoom : Addr) : OkC := fun ds s R => ∃ A B dl rm, ds = [.raw (.ref B.a)] ∧ RD CDisk CRoom s A B dl rm ∧ R (.int rm.first) s
def o_Room_held (CDisk CRoom : Addr) : OkC := fun ds s R => ∃ A B dl rm, ds = [.raw (.ref B.a)] ∧ RD CDisk CRoom s A B dl rm ∧ R (.tup (rm.order.map .int)) s
def o_Room_put (CDisk CRoom : Addr) : OkC := fun ds s R => ∃ A B dl rm line, ds = [.raw (.ref B.a), lineD line] ∧ RD CDisk CRoom s A B dl rm ∧ RI { rm with first := rm.first + 1, fresh := rm.fresh ++ [rm.first] } ∧ line.length ≤ 1000 ∧ okL dl ∧ dl.length < 1000 ∧
  ∀ s', RD CDisk CRoom s' A B (evict dl (keep1 { rm with first := rm.first + 1, fresh := rm.fresh ++ [rm.first] } rm.first line)).1 (evict dl (keep1 { rm with first := rm.first + 1, fresh := rm.fresh ++ [rm.first] } rm.first line)).2 → FrR A B s s' → R (.int rm.first) s'
def o_Room_get (CDisk CRoom : Addr) : OkC := fun ds s R => ∃ A B dl rm page line rm', ds = [.raw (.ref B.a), .int page] ∧ RD CDisk CRoom s A B dl rm ∧ RI rm ∧ okL dl ∧ dl.length < 1000 ∧ getM dl rm page = some (line, rm') ∧ line.length ≤ 1000 ∧
  ∀ s', RD CDisk CRoom s' A B (evict dl (keep1 rm' page line)).1 (evict dl (keep1 rm' page line)).2 → FrR A B s s' → R (lineD line) s'
def o_Room_flush (CDisk CRoom : Addr) : OkC := fun ds s R => ∃ A B dl rm, ds = [.raw (.ref B.a)] ∧ RD CDisk CRoom s A B dl rm ∧ RI rm ∧ (∀ q ∈ rm.fresh, q ∈ rm.order) ∧ okL dl ∧ dl.length + rm.fresh.length ≤ 1000 ∧
  ∀ s', RD CDisk CRoom s' A B (dl ++ rm.fresh.map fun p => .page p (lnP rm.lines p)) { rm with fresh := [], writes := rm.writes + (rm.fresh.length : Nat) } → FrR A B s s' → R .non s'
def o_Room_init (CDisk CRoom : Addr) : OkC := fun ds s R => ∃ a A dl fr fi, ds = [.raw (.ref a), .raw (.ref A.a), .int fr, .int fi] ∧ s a = some (.ins CRoom []) ∧ DiskAt CDisk s A dl ∧ A.off a ∧
  ∀ B s', B.a = a → s B.l = none → s B.o = none → s B.f = none → RD CDisk CRoom s' A B dl ⟨A.a, fr, fi, [], [], [], 0, 0⟩ → FrR A B s s' → R .non s'
section
variable {P : Program} {w : World} {K : PySem.W.Frag} {mg : Str → Option Value} {base : Heap}
theorem ok_Disk_read_1 {CDisk : Addr} (T : Bn mg) (F_Disk : ClF K CDisk fs_Disk) (Df : MDef K CDisk "read" "Disk.read" s_Disk_read ["self", "page"]) {C : Addr} (TB : BadC K mg "BadRow" C)   : Mth P w K mg base CX0 CDisk "read" 1 ["self", "page"] (spD ⟨P, w, K⟩ (Wc ⟨P, w, K⟩) 2 (o_Disk_read1 CDisk)) := by
  have S := sc_Disk_read
  refine Df.okWT S rfl fun f cdv A outer s H E B hr hB => ?_
  have xl := ExLk.none (X := cxOf CX0 P w K mg base ["self", "page"] "Disk.read" (defScope s_Disk_read) f cdv A outer s H E) hB
  refine ⟨_, (dss_cons (ds_if (dt_dninC (Sub.self ⟨P, w, K⟩) hr.u1 (dv 1) (de_fld (Sub.self ⟨P, w, K⟩) F_Disk (by decide) (dv 0))) (dss_one (ds_raise rfl xl (mk_bad TB rfl))) dss_nil) (dss_one (ds_ret (de_dgetC (Sub.self ⟨P, w, K⟩) hr.u1 (de_fld (Sub.self ⟨P, w, K⟩) F_Disk (by decide) (dv 0)) (dv 1))))), ?_⟩
  rintro ds s R hl ⟨q, A, dl, l, rfl, hA, e, h⟩
  simp only [dWhile, dParDF, dParFD, dPar3, dMetS, dCallX, dRaise, dInDO, dIxDO, dLstRg, dTupRg, dCallHX, dRet, dRetN, dSeq, dIfS, dSet, dPar, dAug, dFor, dDrop, dDropM, dSetM, dSetF, fLst, fItems, mBm, dNewD, dPutO, dNext, dBreak, dCont, dAndV, dOrV, dNotV, dAnd, dOr, dNot, dB, dIf, dTup, dLst, dOp, dUn, dCallP, dCall, lfP, dCons, dNil, dVar, dC, dChain, dOpO, dCallO, dItems, dEnum, dRange1, dRange2, dLc, dLc2, dNoPart, dPart, dSl, dTru, gtName, gtTup, gtCons, gtNil, dYes, dGet, dGetO, dRevT, dRevL, lcBody, lcOut, lcIn, wipeD, dFld, dSetFld, dAugFld, dMeth, dMethX, dMake, dNewDc, dNewLc, dBmC, dOpC, dCallC, dSeqC, dIxC, dDGet, dDPut, dDDel, dDIn, dDGet2, dDPop2, dDLen, dDSort, dEqE, dSetIx, dSlC, dDictP, dLock, kAny, kKeys, dForK, dLcK, self_get, self_put, snd_get, snd_put, okV, okFst, okVX, List.map_cons, List.map_nil, List.cons_append, List.nil_append, List.length_cons, List.length_nil, Nat.reduceAdd, Nat.reduceSub, Nat.zero_add, Nat.sub_self, List.replicate_zero, List.replicate_succ, List.getElem?_cons_zero, List.getElem?_cons_succ, List.set_cons_zero, List.set_cons_succ, Option.some.injEq, Dv.Slot.d.injEq, Dv.Slot.own.injEq, Ob.lst.injEq, Ob.dic.injEq, exists_eq_left', exists_eq_left, exists_and_left, List.cons.injEq, and_true, true_and, and_assoc, D.raw.injEq, V.ty.injEq, D.bl.injEq, D.int.injEq, D.str.injEq, D.tup.injEq, D.lst.injEq, Bool.true_eq_false, Bool.false_eq_true, if_true, if_false, ite_true, ite_false, reduceIte, reduceCtorEq, false_or, or_false, itemsD_tup, itemsD_lst, itemsD_dic, exists_const, addP_int, addP_str, addP_tup, addP_lst, cmpP_int, intP_int, slD_tup, slD_lst, lenD_tup, lenD_lst, lenD_str]
  refine ⟨A.a, rfl, _, hA.o, _, gf1 _ _ _ _, A.l, rfl, _, hA.l, _, rfl, .inl q, rfl, ?_⟩
  rw [valD_pk, e]
  refine (if_neg (by simp)).mpr ⟨A.a, rfl, _, hA.o, _, gf1 _ _ _ _, A.l, rfl, _, hA.l, _, rfl, .inl q, rfl, lineD l, ?_, h⟩
  rw [valD_pk, e]
  rfl

theorem ok_Room_next_page {CDisk CRoom : Addr} (T : Bn mg) (F_Disk : ClF K CDisk fs_Disk) (F_Room : ClF K CRoom fs_Room) (Df : MDef K CRoom "next_page" "Room.next_page" s_Room_next_page ["self"])    : Mth P w K mg base CX0 CRoom "next_page" 1 ["self"] (spD ⟨P, w, K⟩ (Wc ⟨P, w, K⟩) 1 (o_Room_next_page CDisk CRoom)) := by
  have S := sc_Room_next_page
  refine Df.okW S rfl fun f cdv A outer s H E B hr => ?_
  refine ⟨_, (dss_one (ds_ret (de_fld (Sub.self ⟨P, w, K⟩) F_Room (by decide) (dv 0)))), ?_⟩
  rintro ds s R hl ⟨A, B', dl, rm, rfl, hR, h⟩
  simp only [dWhile, dParDF, dParFD, dPar3, dMetS, dCallX, dRaise, dInDO, dIxDO, dLstRg, dTupRg, dCallHX, dRet, dRetN, dSeq, dIfS, dSet, dPar, dAug, dFor, dDrop, dDropM, dSetM, dSetF, fLst, fItems, mBm, dNewD, dPutO, dNext, dBreak, dCont, dAndV, dOrV, dNotV, dAnd, dOr, dNot, dB, dIf, dTup, dLst, dOp, dUn, dCallP, dCall, lfP, dCons, dNil, dVar, dC, dChain, dOpO, dCallO, dItems, dEnum, dRange1, dRange2, dLc, dLc2, dNoPart, dPart, dSl, dTru, gtName, gtTup, gtCons, gtNil, dYes, dGet, dGetO, dRevT, dRevL, lcBody, lcOut, lcIn, wipeD, dFld, dSetFld, dAugFld, dMeth, dMethX, dMake, dNewDc, dNewLc, dBmC, dOpC, dCallC, dSeqC, dIxC, dDGet, dDPut, dDDel, dDIn, dDGet2, dDPop2, dDLen, dDSort, dEqE, dSetIx, dSlC, dDictP, dLock, kAny, kKeys, dForK, dLcK, self_get, self_put, snd_get, snd_put, okV, okFst, okVX, List.map_cons, List.map_nil, List.cons_append, List.nil_append, List.length_cons, List.length_nil, Nat.reduceAdd, Nat.reduceSub, Nat.zero_add, Nat.sub_self, List.replicate_zero, List.replicate_succ, List.getElem?_cons_zero, List.getElem?_cons_succ, List.set_cons_zero, List.set_cons_succ, Option.some.injEq, Dv.Slot.d.injEq, Dv.Slot.own.injEq, Ob.lst.injEq, Ob.dic.injEq, exists_eq_left', exists_eq_left, exists_and_left, List.cons.injEq, and_true, true_and, and_assoc, D.raw.injEq, V.ty.injEq, D.bl.injEq, D.int.injEq, D.str.injEq, D.tup.injEq, D.lst.injEq, Bool.true_eq_false, Bool.false_eq_true, if_true, if_false, ite_true, ite_false, reduceIte, reduceCtorEq, false_or, or_false, itemsD_tup, itemsD_lst, itemsD_dic, exists_const, addP_int, addP_str, addP_tup, addP_lst, cmpP_int, intP_int, slD_tup, slD_lst, lenD_tup, lenD_lst, lenD_str]
  exact ⟨B'.a, rfl, _, hR.r.i, _, gr_first _ _, h⟩

theorem ok_Room_held {CDisk CRoom : Addr} (T : Bn mg) (F_Disk : ClF K CDisk fs_Disk) (F_Room : ClF K CRoom fs_Room) (Df : MDef K CRoom "held" "Room.held" s_Room_held ["self"])    : Mth P w K mg base CX0 CRoom "held" 1 ["self"] (spD ⟨P, w, K⟩ (Wc ⟨P, w, K⟩) 1 (o_Room_held CDisk CRoom)) := by
  have S := sc_Room_held
  refine Df.okW S rfl fun f cdv A outer s H E B hr => ?_
  refine ⟨_, (dss_one (ds_ret (de_tupleC (Sub.self ⟨P, w, K⟩) rfl T.b_tuple (de_fld (Sub.self ⟨P, w, K⟩) F_Room (by decide) (dv 0))))), ?_⟩
  rintro ds s R hl ⟨A, B', dl, rm, rfl, hR, h⟩
  simp only [dWhile, dParDF, dParFD, dPar3, dMetS, dCallX, dRaise, dInDO, dIxDO, dLstRg, dTupRg, dCallHX, dRet, dRetN, dSeq, dIfS, dSet, dPar, dAug, dFor, dDrop, dDropM, dSetM, dSetF, fLst, fItems, mBm, dNewD, dPutO, dNext, dBreak, dCont, dAndV, dOrV, dNotV, dAnd, dOr, dNot, dB, dIf, dTup, dLst, dOp, dUn, dCallP, dCall, lfP, dCons, dNil, dVar, dC, dChain, dOpO, dCallO, dItems, dEnum, dRange1, dRange2, dLc, dLc2, dNoPart, dPart, dSl, dTru, gtName, gtTup, gtCons, gtNil, dYes, dGet, dGetO, dRevT, dRevL, lcBody, lcOut, lcIn, wipeD, dFld, dSetFld, dAugFld, dMeth, dMethX, dMake, dNewDc, dNewLc, dBmC, dOpC, dCallC, dSeqC, dIxC, dDGet, dDPut, dDDel, dDIn, dDGet2, dDPop2, dDLen, dDSort, dEqE, dSetIx, dSlC, dDictP, dLock, kAny, kKeys, dForK, dLcK, self_get, self_put, snd_get, snd_put, okV, okFst, okVX, List.map_cons, List.map_nil, List.cons_append, List.nil_append, List.length_cons, List.length_nil, Nat.reduceAdd, Nat.reduceSub, Nat.zero_add, Nat.sub_self, List.replicate_zero, List.replicate_succ, List.getElem?_cons_zero, List.getElem?_cons_succ, List.set_cons_zero, List.set_cons_succ, Option.some.injEq, Dv.Slot.d.injEq, Dv.Slot.own.injEq, Ob.lst.injEq, Ob.dic.injEq, exists_eq_left', exists_eq_left, exists_and_left, List.cons.injEq, and_true, true_and, and_assoc, D.raw.injEq, V.ty.injEq, D.bl.injEq, D.int.injEq, D.str.injEq, D.tup.injEq, D.lst.injEq, Bool.true_eq_false, Bool.false_eq_true, if_true, if_false, ite_true, ite_false, reduceIte, reduceCtorEq, false_or, or_false, itemsD_tup, itemsD_lst, itemsD_dic, exists_const, addP_int, addP_str, addP_tup, addP_lst, cmpP_int, intP_int, slD_tup, slD_lst, lenD_tup, lenD_lst, lenD_str]
  exact ⟨B'.a, rfl, _, hR.r.i, _, gr_order _ _, B'.o, rfl, _, hR.r.o, h⟩

theorem ok_Room_put {CDisk CRoom : Addr} (T : Bn mg) (F_Disk : ClF K CDisk fs_Disk) (F_Room : ClF K CRoom fs_Room) (Df : MDef K CRoom "put" "Room.put" s_Room_put ["self", "line"])   (M_Room_keep : Mth P w K mg base CX0 CRoom "keep" 3 ["self", "page", "line"] (spD ⟨P, w, K⟩ (Wc ⟨P, w, K⟩) 3 (o_Room_keep CDisk CRoom))) : Mth P w K mg base CX0 CRoom "put" 4 ["self", "line"] (spD ⟨P, w, K⟩ (Wc ⟨P, w, K⟩) 2 (o_Room_put CDisk CRoom)) := by
  have S := sc_Room_put
  refine Df.okW S rfl fun f cdv A outer s H E B hr => ?_
  refine ⟨_, (dss_cons (ds_set (i := 2) S.nd rfl (by first | exact .inl rfl | exact .inr rfl) (de_fld (Sub.self ⟨P, w, K⟩) F_Room (by decide) (dv 0))) (dss_cons (ds_fldaug (Sub.self ⟨P, w, K⟩) F_Room (by decide) (dv 0) de_int) (dss_cons (ds_expr (de_bmC (Sub.self ⟨P, w, K⟩) PySem.F.slot_list_append PySem.F.type_list_append ow_append (de_fld (Sub.self ⟨P, w, K⟩) F_Room (by decide) (dv 0)) (da_cons (dv 2) da_nil))) (dss_cons (ds_expr (de_meth (Sub.self ⟨P, w, K⟩) F_Room M_Room_keep (hr.mono (by decide)) (dv 0) (da_cons (dv 2) (da_cons (dv 1) da_nil)))) (dss_one (ds_ret (dv 2))))))), ?_⟩
  rintro ds s R hl ⟨A, B', dl, rm, line, rfl, hR, hI, hln, hb, hbl, h⟩
  have hzl := sizeLine_eq
  have hlf := hI.lf
  have hlf : (rm.fresh ++ [rm.first]).length ≤ 500 := hlf
  rw [List.length_append] at hlf
  simp only [dWhile, dParDF, dParFD, dPar3, dMetS, dCallX, dRaise, dInDO, dIxDO, dLstRg, dTupRg, dCallHX, dRet, dRetN, dSeq, dIfS, dSet, dPar, dAug, dFor, dDrop, dDropM, dSetM, dSetF, fLst, fItems, mBm, dNewD, dPutO, dNext, dBreak, dCont, dAndV, dOrV, dNotV, dAnd, dOr, dNot, dB, dIf, dTup, dLst, dOp, dUn, dCallP, dCall, lfP, dCons, dNil, dVar, dC, dChain, dOpO, dCallO, dItems, dEnum, dRange1, dRange2, dLc, dLc2, dNoPart, dPart, dSl, dTru, gtName, gtTup, gtCons, gtNil, dYes, dGet, dGetO, dRevT, dRevL, lcBody, lcOut, lcIn, wipeD, dFld, dSetFld, dAugFld, dMeth, dMethX, dMake, dNewDc, dNewLc, dBmC, dOpC, dCallC, dSeqC, dIxC, dDGet, dDPut, dDDel, dDIn, dDGet2, dDPop2, dDLen, dDSort, dEqE, dSetIx, dSlC, dDictP, dLock, kAny, kKeys, dForK, dLcK, self_get, self_put, snd_get, snd_put, okV, okFst, okVX, List.map_cons, List.map_nil, List.cons_append, List.nil_append, List.length_cons, List.length_nil, Nat.reduceAdd, Nat.reduceSub, Nat.zero_add, Nat.sub_self, List.replicate_zero, List.replicate_succ, List.getElem?_cons_zero, List.getElem?_cons_succ, List.set_cons_zero, List.set_cons_succ, Option.some.injEq, Dv.Slot.d.injEq, Dv.Slot.own.injEq, Ob.lst.injEq, Ob.dic.injEq, exists_eq_left', exists_eq_left, exists_and_left, List.cons.injEq, and_true, true_and, and_assoc, D.raw.injEq, V.ty.injEq, D.bl.injEq, D.int.injEq, D.str.injEq, D.tup.injEq, D.lst.injEq, Bool.true_eq_false, Bool.false_eq_true, if_true, if_false, ite_true, ite_false, reduceIte, reduceCtorEq, false_or, or_false, itemsD_tup, itemsD_lst, itemsD_dic, exists_const, addP_int, addP_str, addP_tup, addP_lst, cmpP_int, intP_int, slD_tup, slD_lst, lenD_tup, lenD_lst, lenD_str]
  refine ⟨B'.a, rfl, _, hR.r.i, _, gr_first _ _, B'.a, rfl, _, hR.r.i, _, gr_first _ _, _, hR.r.i, rm_len _ _, ?_⟩
  rw [sr_first]
  have hR1 := hR.setA { rm with first := rm.first + 1 } rfl rfl rfl rfl
  refine ⟨B'.a, rfl, _, hR1.r.i, _, gr_fresh _ _, B'.f, rfl, ⟨_, hR1.r.f⟩, _, hR1.r.f, fun hz => ⟨by rw [List.length_map]; show rm.fresh.length < _; omega, ?_⟩⟩
  have e2 : List.map D.int rm.fresh ++ [D.int rm.first] = (rm.fresh ++ [rm.first]).map .int := by rw [List.map_append]; rfl
  rw [show (List.map D.int ({ rm with first := rm.first + 1 } : Rm).fresh ++ [D.int rm.first]) = (rm.fresh ++ [rm.first]).map .int from e2]
  have hR2 := hR1.setF (rm.fresh ++ [rm.first])
  exact ⟨B'.a, rfl, _, hR2.r.i, gm_keep _ _, A, B', dl, _, rm.first, line, rfl, hR2, hI, hln, hb, hbl, fun s3 h3 f3 => h s3 h3 (fr_a.trans (fr_f.trans f3))⟩

theorem ok_Room_get {CDisk CRoom : Addr} (T : Bn mg) (F_Disk : ClF K CDisk fs_Disk) (F_Room : ClF K CRoom fs_Room) (Df : MDef K CRoom "get" "Room.get" s_Room_get ["self", "page"])   (M_Disk_read : Mth P w K mg base CX0 CDisk "read" 1 ["self", "page"] (spD ⟨P, w, K⟩ (Wc ⟨P, w, K⟩) 2 (o_Disk_read1 CDisk))) (M_Room_keep : Mth P w K mg base CX0 CRoom "keep" 3 ["self", "page", "line"] (spD ⟨P, w, K⟩ (Wc ⟨P, w, K⟩) 3 (o_Room_keep CDisk CRoom))) : Mth P w K mg base CX0 CRoom "get" 4 ["self", "page"] (spD ⟨P, w, K⟩ (Wc ⟨P, w, K⟩) 2 (o_Room_get CDisk CRoom)) := by
  have S := sc_Room_get
  refine Df.okW S rfl fun f cdv A outer s H E B hr => ?_
  refine ⟨_, (dss_cons (ds_if (dt_dinC (Sub.self ⟨P, w, K⟩) hr.u1 (dv 1) (de_fld (Sub.self ⟨P, w, K⟩) F_Room (by decide) (dv 0))) (dss_one (ds_set (i := 2) S.nd rfl (by first | exact .inl rfl | exact .inr rfl) (de_dgetC (Sub.self ⟨P, w, K⟩) hr.u1 (de_fld (Sub.self ⟨P, w, K⟩) F_Room (by decide) (dv 0)) (dv 1)))) (dss_cons (ds_set (i := 2) S.nd rfl (by first | exact .inl rfl | exact .inr rfl) (de_meth (Sub.self ⟨P, w, K⟩) F_Disk M_Disk_read (hr.mono (by decide)) (de_fld (Sub.self ⟨P, w, K⟩) F_Room (by decide) (dv 0)) (da_cons (dv 1) da_nil))) (dss_one (ds_fldaug (Sub.self ⟨P, w, K⟩) F_Room (by decide) (dv 0) de_int)))) (dss_cons (ds_expr (de_meth (Sub.self ⟨P, w, K⟩) F_Room M_Room_keep (hr.mono (by decide)) (dv 0) (da_cons (dv 1) (da_cons (dv 2) da_nil)))) (dss_one (ds_ret (dv 2))))), ?_⟩
  rintro ds s R hl ⟨A, B', dl, rm, page, line, rm', rfl, hR, hI, hb, hbl, hg, hln, h⟩
  have hzl := sizeLine_eq
  simp only [dWhile, dParDF, dParFD, dPar3, dMetS, dCallX, dRaise, dInDO, dIxDO, dLstRg, dTupRg, dCallHX, dRet, dRetN, dSeq, dIfS, dSet, dPar, dAug, dFor, dDrop, dDropM, dSetM, dSetF, fLst, fItems, mBm, dNewD, dPutO, dNext, dBreak, dCont, dAndV, dOrV, dNotV, dAnd, dOr, dNot, dB, dIf, dTup, dLst, dOp, dUn, dCallP, dCall, lfP, dCons, dNil, dVar, dC, dChain, dOpO, dCallO, dItems, dEnum, dRange1, dRange2, dLc, dLc2, dNoPart, dPart, dSl, dTru, gtName, gtTup, gtCons, gtNil, dYes, dGet, dGetO, dRevT, dRevL, lcBody, lcOut, lcIn, wipeD, dFld, dSetFld, dAugFld, dMeth, dMethX, dMake, dNewDc, dNewLc, dBmC, dOpC, dCallC, dSeqC, dIxC, dDGet, dDPut, dDDel, dDIn, dDGet2, dDPop2, dDLen, dDSort, dEqE, dSetIx, dSlC, dDictP, dLock, kAny, kKeys, dForK, dLcK, self_get, self_put, snd_get, snd_put, okV, okFst, okVX, List.map_cons, List.map_nil, List.cons_append, List.nil_append, List.length_cons, List.length_nil, Nat.reduceAdd, Nat.reduceSub, Nat.zero_add, Nat.sub_self, List.replicate_zero, List.replicate_succ, List.getElem?_cons_zero, List.getElem?_cons_succ, List.set_cons_zero, List.set_cons_succ, Option.some.injEq, Dv.Slot.d.injEq, Dv.Slot.own.injEq, Ob.lst.injEq, Ob.dic.injEq, exists_eq_left', exists_eq_left, exists_and_left, List.cons.injEq, and_true, true_and, and_assoc, D.raw.injEq, V.ty.injEq, D.bl.injEq, D.int.injEq, D.str.injEq, D.tup.injEq, D.lst.injEq, Bool.true_eq_false, Bool.false_eq_true, if_true, if_false, ite_true, ite_false, reduceIte, reduceCtorEq, false_or, or_false, itemsD_tup, itemsD_lst, itemsD_dic, exists_const, addP_int, addP_str, addP_tup, addP_lst, cmpP_int, intP_int, slD_tup, slD_lst, lenD_tup, lenD_lst, lenD_str]
  refine ⟨B'.a, rfl, _, hR.r.i, _, gr_lines _ _, B'.l, rfl, _, hR.r.l, _, rfl, .inl page, rfl, ?_⟩
  rw [valD_pk, Option.isSome_map]
  unfold getM at hg
  cases e : getP rm.lines page with
  | some l =>
    rw [e] at hg
    cases hg
    refine (if_pos rfl).mpr ⟨B'.a, rfl, _, hR.r.i, _, gr_lines _ _, B'.l, rfl, _, hR.r.l, _, rfl, .inl page, rfl, lineD line, by rw [valD_pk, e]; rfl, ?_⟩
    exact ⟨B'.a, rfl, _, hR.r.i, gm_keep _ _, A, B', dl, rm, page, line, rfl, hR, hI, hln, hb, hbl, fun s3 h3 f3 => h s3 h3 f3⟩
  | none =>
    rw [e] at hg
    cases e2 : getP (stD dl).pages page with
    | none => rw [e2] at hg; cases hg
    | some l =>
      rw [e2] at hg
      cases hg
      refine (if_neg (by simp)).mpr ⟨B'.a, rfl, _, hR.r.i, _, gr_disk _ _, rm.disk, rfl, _, by rw [hR.k]; exact hR.d.o, gm_read _ _ _ _, ?_⟩
      refine ⟨page, A, dl, line, by rw [hR.k], hR.d, e2, B'.a, rfl, _, hR.r.i, _, gr_reads _ _, _, hR.r.i, rm_len _ _, ?_⟩
      rw [sr_reads]
      have hR1 := hR.setA { rm with reads := rm.reads + 1 } rfl rfl rfl rfl
      exact ⟨B'.a, rfl, _, hR1.r.i, gm_keep _ _, A, B', dl, _, page, line, rfl, hR1, ⟨hI.k, hI.no, hI.nf, hI.lo, hI.ll, hI.lf, hI.ln⟩, hln, hb, hbl, fun s3 h3 f3 => h s3 h3 (fr_a.trans f3)⟩

end
end K15

set_option Elab.async false
set_option linter.all false
set_option maxRecDepth 100000
set_option maxHeartbeats 2000000
namespace K15
open PySem L2 Dv Bg
abbrev s__law_done : Stmt := top 14
theorem sc__law_done : FnScope ["deeds", "pages", "log", "roots", "deed", "page"] ["deeds"] (defScope s__law_done) := ⟨rfl, rfl, rfl, by decide +kernel, rfl, by decide +kernel, by decide +kernel⟩
abbrev s__law_read : Stmt := top 15
theorem sc__law_read : FnScope ["disk", "page", "e"] ["disk", "page"] (defScope s__law_read) := ⟨rfl, rfl, rfl, by decide +kernel, rfl, by decide +kernel, by decide +kernel⟩
abbrev s__law_is_disk : Stmt := top 16
theorem sc__law_is_disk : FnScope ["disk", "deeds", "pages", "log", "roots", "page"] ["disk", "deeds"] (defScope s__law_is_disk) := ⟨rfl, rfl, rfl, by decide +kernel, rfl, by decide +kernel, by decide +kernel⟩
abbrev s__law_do : Stmt := top 17
theorem sc__law_do : FnScope ["disk", "deed"] ["disk", "deed"] (defScope s__law_do) := ⟨rfl, rfl, rfl, by decide +kernel, rfl, by decide +kernel, by decide +kernel⟩
section
variable {P : Program} {w : World} {K : PySem.W.Frag} {mg : Str → Option Value} {base : Heap}
theorem ok_Room_flush {CDisk CRoom : Addr} (T : Bn mg) (F_Disk : ClF K CDisk fs_Disk) (F_Room : ClF K CRoom fs_Room) (Df : MDef K CRoom "flush" "Room.flush" s_Room_flush ["self"])   (M_Room_save : Mth P w K mg base CX0 CRoom "save" 2 ["self", "page"] (spD ⟨P, w, K⟩ (Wc ⟨P, w, K⟩) 2 (o_Room_save CDisk CRoom))) : Mth P w K mg base CX0 CRoom "flush" 3 ["self"] (spD ⟨P, w, K⟩ (Wc ⟨P, w, K⟩) 1 (o_Room_flush CDisk CRoom)) := by
  have S := sc_Room_flush
  refine Df.okW S rfl fun f cdv A outer s H E B hr => ?_
  refine ⟨_, (dss_one (ds_for PassesOwn.never rfl (di_val (de_listC (Sub.self ⟨P, w, K⟩) rfl T.b_list (de_fld (Sub.self ⟨P, w, K⟩) F_Room (by decide) (dv 0)))) (dg_name (i := 1) S.nd rfl (by first | exact .inl rfl | exact .inr rfl)) (dss_one (ds_expr (de_meth (Sub.self ⟨P, w, K⟩) F_Room M_Room_save (hr.mono (by decide)) (dv 0) (da_cons (dv 1) da_nil)))))), ?_⟩
  rintro ds s R hl ⟨A, B', dl, rm, rfl, hR, hI, hfo, hb, hbl, h⟩
  have hzl := sizeLine_eq
  have hlf := hI.lf
  simp only [dWhile, dParDF, dParFD, dPar3, dMetS, dCallX, dRaise, dInDO, dIxDO, dLstRg, dTupRg, dCallHX, dRet, dRetN, dSeq, dIfS, dSet, dPar, dAug, dFor, dDrop, dDropM, dSetM, dSetF, fLst, fItems, mBm, dNewD, dPutO, dNext, dBreak, dCont, dAndV, dOrV, dNotV, dAnd, dOr, dNot, dB, dIf, dTup, dLst, dOp, dUn, dCallP, dCall, lfP, dCons, dNil, dVar, dC, dChain, dOpO, dCallO, dItems, dEnum, dRange1, dRange2, dLc, dLc2, dNoPart, dPart, dSl, dTru, gtName, gtTup, gtCons, gtNil, dYes, dGet, dGetO, dRevT, dRevL, lcBody, lcOut, lcIn, wipeD, dFld, dSetFld, dAugFld, dMeth, dMethX, dMake, dNewDc, dNewLc, dBmC, dOpC, dCallC, dSeqC, dIxC, dDGet, dDPut, dDDel, dDIn, dDGet2, dDPop2, dDLen, dDSort, dEqE, dSetIx, dSlC, dDictP, dLock, kAny, kKeys, dForK, dLcK, self_get, self_put, snd_get, snd_put, okV, okFst, okVX, List.map_cons, List.map_nil, List.cons_append, List.nil_append, List.length_cons, List.length_nil, Nat.reduceAdd, Nat.reduceSub, Nat.zero_add, Nat.sub_self, List.replicate_zero, List.replicate_succ, List.getElem?_cons_zero, List.getElem?_cons_succ, List.set_cons_zero, List.set_cons_succ, Option.some.injEq, Dv.Slot.d.injEq, Dv.Slot.own.injEq, Ob.lst.injEq, Ob.dic.injEq, exists_eq_left', exists_eq_left, exists_and_left, List.cons.injEq, and_true, true_and, and_assoc, D.raw.injEq, V.ty.injEq, D.bl.injEq, D.int.injEq, D.str.injEq, D.tup.injEq, D.lst.injEq, Bool.true_eq_false, Bool.false_eq_true, if_true, if_false, ite_true, ite_false, reduceIte, reduceCtorEq, false_or, or_false, itemsD_tup, itemsD_lst, itemsD_dic, exists_const, addP_int, addP_str, addP_tup, addP_lst, cmpP_int, intP_int, slD_tup, slD_lst, lenD_tup, lenD_lst, lenD_str]
  refine ⟨B'.a, rfl, _, hR.r.i, _, gr_fresh _ _, B'.f, rfl, _, hR.r.f, fun _ => ?_⟩
  refine for_mapg (pre := []) (fun qs ρ s2 => (∃ d2, ρ = [.d (.raw (.ref B'.a)), d2]) ∧ FrR A B' s s2 ∧ ∃ rest, rm.fresh = qs ++ rest ∧ RD CDisk CRoom s2 A B' (dl ++ qs.map fun p => .page p (lnP rm.lines p)) { rm with fresh := rest, writes := rm.writes + (qs.length : Nat) }) ⟨⟨_, rfl⟩, FrR.refl, rm.fresh, rfl, ?_⟩ ?_ ?_
  · rw [List.map_nil, List.append_nil]
    have e : ({ rm with writes := rm.writes + ((([] : List Int).length : Nat) : Int) } : Rm) = rm := by
      cases rm
      simp
    rw [show ({ rm with fresh := rm.fresh, writes := rm.writes + ((([] : List Int).length : Nat) : Int) } : Rm) = rm from e]
    exact hR
  · rintro qs z rs e ρ s2 ⟨⟨d2, rfl⟩, hf, rest, er, hR2⟩ K2 hK2
    rw [List.nil_append] at e
    have : rest = z :: rs := by
      rw [e] at er
      exact (List.append_cancel_left er).symm
    subst this
    have hzf : z ∈ rm.fresh := by rw [e]; simp
    have hzl2 := (hI.k z).mp (hfo z hzf)
    obtain ⟨l, hl2⟩ := Option.isSome_iff_exists.mp hzl2
    have hln : lnP rm.lines z = l := by rw [lnP, hl2]; rfl
    have hql : qs.length < rm.fresh.length := by rw [e, List.length_append, List.length_cons]; omega
    have hbq : okL (dl ++ qs.map fun p => .page p (lnP rm.lines p)) := by
      refine ⟨by rw [List.length_append, List.length_map]; omega, fun x hx => ?_⟩
      rcases List.mem_append.mp hx with y | y
      · exact hb.2 x y
      · obtain ⟨p, hp, rfl⟩ := List.mem_map.mp y
        have hpf : p ∈ rm.fresh := by rw [e]; simp [hp]
        obtain ⟨l2, e2⟩ := Option.isSome_iff_exists.mp ((hI.k p).mp (hfo p hpf))
        show (lnP rm.lines p).length ≤ 1000
        rw [lnP, e2]
        exact hI.ln p l2 e2
    simp only [dWhile, dParDF, dParFD, dPar3, dMetS, dCallX, dRaise, dInDO, dIxDO, dLstRg, dTupRg, dCallHX, dRet, dRetN, dSeq, dIfS, dSet, dPar, dAug, dFor, dDrop, dDropM, dSetM, dSetF, fLst, fItems, mBm, dNewD, dPutO, dNext, dBreak, dCont, dAndV, dOrV, dNotV, dAnd, dOr, dNot, dB, dIf, dTup, dLst, dOp, dUn, dCallP, dCall, lfP, dCons, dNil, dVar, dC, dChain, dOpO, dCallO, dItems, dEnum, dRange1, dRange2, dLc, dLc2, dNoPart, dPart, dSl, dTru, gtName, gtTup, gtCons, gtNil, dYes, dGet, dGetO, dRevT, dRevL, lcBody, lcOut, lcIn, wipeD, dFld, dSetFld, dAugFld, dMeth, dMethX, dMake, dNewDc, dNewLc, dBmC, dOpC, dCallC, dSeqC, dIxC, dDGet, dDPut, dDDel, dDIn, dDGet2, dDPop2, dDLen, dDSort, dEqE, dSetIx, dSlC, dDictP, dLock, kAny, kKeys, dForK, dLcK, self_get, self_put, snd_get, snd_put, okV, okFst, okVX, List.map_cons, List.map_nil, List.cons_append, List.nil_append, List.length_cons, List.length_nil, Nat.reduceAdd, Nat.reduceSub, Nat.zero_add, Nat.sub_self, List.replicate_zero, List.replicate_succ, List.getElem?_cons_zero, List.getElem?_cons_succ, List.set_cons_zero, List.set_cons_succ, Option.some.injEq, Dv.Slot.d.injEq, Dv.Slot.own.injEq, Ob.lst.injEq, Ob.dic.injEq, exists_eq_left', exists_eq_left, exists_and_left, List.cons.injEq, and_true, true_and, and_assoc, D.raw.injEq, V.ty.injEq, D.bl.injEq, D.int.injEq, D.str.injEq, D.tup.injEq, D.lst.injEq, Bool.true_eq_false, Bool.false_eq_true, if_true, if_false, ite_true, ite_false, reduceIte, reduceCtorEq, false_or, or_false, itemsD_tup, itemsD_lst, itemsD_dic, exists_const, addP_int, addP_str, addP_tup, addP_lst, cmpP_int, intP_int, slD_tup, slD_lst, lenD_tup, lenD_lst, lenD_str]
    refine ⟨B'.a, rfl, _, hR2.r.i, gm_save _ _, A, B', _, _, z, l, rfl, hR2, hl2, by simp, okL_add hbq (by rw [List.length_append, List.length_map]; omega) (hI.ln z l hl2), ?_, fun s3 h3 f3 => hK2 _ _ ⟨⟨_, rfl⟩, hf.trans f3, rs, by rw [e]; simp, ?_⟩⟩
    · have := congrArg List.length e
      rw [List.length_append] at this
      show (z :: rs).length ≤ 1000
      omega
    · have e3 : (saveM (dl ++ qs.map fun p => .page p (lnP rm.lines p)) { rm with fresh := z :: rs, writes := rm.writes + (qs.length : Nat) } z) = (dl ++ (qs ++ [z]).map fun p => .page p (lnP rm.lines p), { rm with fresh := rs, writes := rm.writes + ((qs ++ [z]).length : Nat) }) := by
        rw [saveM]
        simp only [List.erase_cons_head, List.map_append, List.map_cons, List.map_nil, List.append_assoc, List.length_append, List.length_singleton]
        congr 2
        push_cast
        omega
      rw [e3] at h3
      exact h3
  · rintro ρ s2 ⟨⟨d2, rfl⟩, hf, rest, er, hR2⟩
    rw [List.nil_append] at er hR2
    have : rest = [] := by
      have := congrArg List.length er
      rw [List.length_append] at this
      exact List.length_eq_zero_iff.mp (by omega)
    subst this
    exact h s2 hR2 hf

theorem ok_Room___init__ {CDisk CRoom : Addr} (T : Bn mg) (F_Disk : ClF K CDisk fs_Disk) (F_Room : ClF K CRoom fs_Room) (Df : KDef K mg "Room" CRoom "Room.__init__" s_Room___init__ ["self", "disk", "frames", "first"])    : Mkr P w K mg base "Room" CRoom 1 ["self", "disk", "frames", "first"] (spD ⟨P, w, K⟩ (Wc ⟨P, w, K⟩) 4 (o_Room_init CDisk CRoom)) := by
  have S := sc_Room___init__
  refine Df.okW S rfl fun f cdv A outer s H E B hr => ?_
  refine ⟨_, (dss_cons (ds_fld (Sub.self ⟨P, w, K⟩) F_Room (by decide) (dv 0) (dv 1)) (dss_cons (ds_fld (Sub.self ⟨P, w, K⟩) F_Room (by decide) (dv 0) (dv 2)) (dss_cons (ds_fld (Sub.self ⟨P, w, K⟩) F_Room (by decide) (dv 0) (dv 3)) (dss_cons (ds_fld (Sub.self ⟨P, w, K⟩) F_Room (by decide) (dv 0) (de_newDc (Sub.self ⟨P, w, K⟩))) (dss_cons (ds_fld (Sub.self ⟨P, w, K⟩) F_Room (by decide) (dv 0) (de_newLc (Sub.self ⟨P, w, K⟩) da_nil)) (dss_cons (ds_fld (Sub.self ⟨P, w, K⟩) F_Room (by decide) (dv 0) (de_newLc (Sub.self ⟨P, w, K⟩) da_nil)) (dss_cons (ds_fld (Sub.self ⟨P, w, K⟩) F_Room (by decide) (dv 0) de_int) (dss_one (ds_fld (Sub.self ⟨P, w, K⟩) F_Room (by decide) (dv 0) de_int))))))))), ?_⟩
  rintro ds s R hl ⟨a, A, dl, fr, fi, rfl, ha, hA, hoa, h⟩
  have nn : ∀ {t : Cs} {b c : Addr} {u : Cell}, t b = some u → t c = none → b ≠ c := fun e1 e2 z => by
    subst z
    rw [e1] at e2
    cases e2
  simp only [dWhile, dParDF, dParFD, dPar3, dMetS, dCallX, dRaise, dInDO, dIxDO, dLstRg, dTupRg, dCallHX, dRet, dRetN, dSeq, dIfS, dSet, dPar, dAug, dFor, dDrop, dDropM, dSetM, dSetF, fLst, fItems, mBm, dNewD, dPutO, dNext, dBreak, dCont, dAndV, dOrV, dNotV, dAnd, dOr, dNot, dB, dIf, dTup, dLst, dOp, dUn, dCallP, dCall, lfP, dCons, dNil, dVar, dC, dChain, dOpO, dCallO, dItems, dEnum, dRange1, dRange2, dLc, dLc2, dNoPart, dPart, dSl, dTru, gtName, gtTup, gtCons, gtNil, dYes, dGet, dGetO, dRevT, dRevL, lcBody, lcOut, lcIn, wipeD, dFld, dSetFld, dAugFld, dMeth, dMethX, dMake, dNewDc, dNewLc, dBmC, dOpC, dCallC, dSeqC, dIxC, dDGet, dDPut, dDDel, dDIn, dDGet2, dDPop2, dDLen, dDSort, dEqE, dSetIx, dSlC, dDictP, dLock, kAny, kKeys, dForK, dLcK, self_get, self_put, snd_get, snd_put, okV, okFst, okVX, List.map_cons, List.map_nil, List.cons_append, List.nil_append, List.length_cons, List.length_nil, Nat.reduceAdd, Nat.reduceSub, Nat.zero_add, Nat.sub_self, List.replicate_zero, List.replicate_succ, List.getElem?_cons_zero, List.getElem?_cons_succ, List.set_cons_zero, List.set_cons_succ, Option.some.injEq, Dv.Slot.d.injEq, Dv.Slot.own.injEq, Ob.lst.injEq, Ob.dic.injEq, exists_eq_left', exists_eq_left, exists_and_left, List.cons.injEq, and_true, true_and, and_assoc, D.raw.injEq, V.ty.injEq, D.bl.injEq, D.int.injEq, D.str.injEq, D.tup.injEq, D.lst.injEq, Bool.true_eq_false, Bool.false_eq_true, if_true, if_false, ite_true, ite_false, reduceIte, reduceCtorEq, false_or, or_false, itemsD_tup, itemsD_lst, itemsD_dic, exists_const, addP_int, addP_str, addP_tup, addP_lst, cmpP_int, intP_int, slD_tup, slD_lst, lenD_tup, lenD_lst, lenD_str]
  refine ⟨a, rfl, _, ha, by decide, a, rfl, _, updS_same, by show 1 < 1000; decide, a, rfl, _, updS_same, by show 2 < 1000; decide, fun l hl0 => ?_⟩
  have un := @un_upd
  obtain ⟨la, hl0⟩ := un_upd hl0
  obtain ⟨_, hl0⟩ := un_upd hl0
  obtain ⟨_, hl0⟩ := un_upd hl0
  refine ⟨a, rfl, _, (updS_ne (Ne.symm la)).trans updS_same, by show 3 < 1000; decide, by decide, fun o ho => ?_⟩
  obtain ⟨oa, ho⟩ := un_upd ho
  obtain ⟨ol, ho⟩ := un_upd ho
  obtain ⟨_, ho⟩ := un_upd ho
  obtain ⟨_, ho⟩ := un_upd ho
  obtain ⟨_, ho⟩ := un_upd ho
  refine ⟨a, rfl, _, (updS_ne (Ne.symm oa)).trans updS_same, by show 4 < 1000; decide, by decide, fun f hf => ?_⟩
  obtain ⟨fa, hf⟩ := un_upd hf
  obtain ⟨fo, hf⟩ := un_upd hf
  obtain ⟨_, hf⟩ := un_upd hf
  obtain ⟨fl, hf⟩ := un_upd hf
  obtain ⟨_, hf⟩ := un_upd hf
  obtain ⟨_, hf⟩ := un_upd hf
  obtain ⟨_, hf⟩ := un_upd hf
  refine ⟨a, rfl, _, (updS_ne (Ne.symm fa)).trans updS_same, by show 5 < 1000; decide, a, rfl, _, updS_same, by show 6 < 1000; decide, a, rfl, _, updS_same, by show 7 < 1000; decide, ?_⟩
  have dl_ : A.off l := ⟨(nn hA.o hl0).symm, (nn hA.l hl0).symm, (nn hA.r hl0).symm, (nn hA.n hl0).symm⟩
  have do_ : A.off o := ⟨(nn hA.o ho).symm, (nn hA.l ho).symm, (nn hA.r ho).symm, (nn hA.n ho).symm⟩
  have df_ : A.off f := ⟨(nn hA.o hf).symm, (nn hA.l hf).symm, (nn hA.r hf).symm, (nn hA.n hf).symm⟩
  refine h ⟨a, l, o, f⟩ _ rfl hl0 ho hf ⟨?_, ⟨?_, ?_, ?_, ?_, fun z => fo z.symm⟩, rfl, hoa, dl_, do_, df_⟩ fun b hb1 hb2 => ?_
  · refine DiskAt.upd (DiskAt.upd (DiskAt.upd (DiskAt.upd (DiskAt.upd (DiskAt.upd (DiskAt.upd (DiskAt.upd (DiskAt.upd (DiskAt.upd (DiskAt.upd hA ?_) ?_) ?_) ?_) ?_) ?_) ?_) ?_) ?_) ?_) ?_ <;> assumption
  · exact updS_same
  · show updS _ a _ l = _
    rw [updS_ne la, updS_ne la, updS_ne la, updS_ne (Ne.symm fl), updS_ne la, updS_ne (Ne.symm ol), updS_ne la, updS_same]
    rfl
  · show updS _ a _ o = _
    rw [updS_ne oa, updS_ne oa, updS_ne oa, updS_ne (Ne.symm fo), updS_ne oa, updS_same]
    rfl
  · show updS _ a _ f = _
    rw [updS_ne fa, updS_ne fa, updS_ne fa, updS_same]
    rfl
  · obtain ⟨h1, h2, h3, h4⟩ := hb2
    have h1 : b ≠ a := h1
    have h2 : b ≠ l := h2
    have h3 : b ≠ o := h3
    have h4 : b ≠ f := h4
    rw [updS_ne h1, updS_ne h1, updS_ne h1, updS_ne h4, updS_ne h1, updS_ne h3, updS_ne h1, updS_ne h2, updS_ne h1, updS_ne h1, updS_ne h1]

end
end K15

set_option Elab.async false
set_option linter.all false
set_option maxRecDepth 100000
set_option maxHeartbeats 2000000
namespace K15
open PySem L2 Dv Bg
def o_done : OkC := fun ds s R => ∃ d dl, ds = [d] ∧ DeedsAt s d dl ∧ okL dl ∧
  ∀ p r s', s p = none → s r = none → s' p = some (.dct ((stD dl).pages.map pk)) → s' r = some (.lst ((stD dl).roots.map lineD)) → Kp s s' → R (.tup [.raw (.ref p), lineD (stD dl).log, .raw (.ref r)]) s'
section
variable {P : Program} {w : World} {K : PySem.W.Frag} {mg : Str → Option Value} {base : Heap}
theorem ok_done (T : Bn mg) (Df : Def K mg "_law_done" s__law_done ["deeds"]) : Cal P w K mg base "_law_done" 1 ["deeds"] (spD ⟨P, w, K⟩ (Wc ⟨P, w, K⟩) 1 o_done) := by
  have S := sc__law_done
  refine Df.okW S rfl fun f cdv A outer s H E B hr => ?_
  refine ⟨_, (dss_cons (ds_asg (de_tup (da_cons (de_newDc (Sub.self ⟨P, w, K⟩)) (da_cons (de_tup da_nil) (da_cons (de_newLc (Sub.self ⟨P, w, K⟩) (da_cons (de_tup da_nil) (da_cons (de_tup da_nil) da_nil))) da_nil)))) (dg_tup (n := 3) rfl (dgs_cons (dg_name (i := 1) S.nd rfl (by first | exact .inl rfl | exact .inr rfl)) (dgs_cons (dg_name (i := 2) S.nd rfl (by first | exact .inl rfl | exact .inr rfl)) (dgs_cons (dg_name (i := 3) S.nd rfl (by first | exact .inl rfl | exact .inr rfl)) dgs_nil))))) (dss_cons (ds_forK PassesOwn.never rfl (dik_any (Sub.self ⟨P, w, K⟩) (dv 0)) (dg_name (i := 4) S.nd rfl (by first | exact .inl rfl | exact .inr rfl)) (dss_one (ds_if (dt_cmp (od_eq hr.units 8) (de_ix xd_seq (dv 4) de_int) de_str) (dss_one (ds_dputC (Sub.self ⟨P, w, K⟩) hr.u1 (dv 1) (de_ix xd_seq (dv 4) de_int) (de_ix xd_seq (dv 4) de_int))) (dss_one (ds_if (dt_cmp (od_eq hr.units 8) (de_ix xd_seq (dv 4) de_int) de_str) (dss_one (ds_set (i := 1) S.nd rfl (by first | exact .inl rfl | exact .inr rfl) (de_dictPC (Sub.self ⟨P, w, K⟩) rfl rfl T.b_dict (de_lockC (Sub.self ⟨P, w, K⟩) (de_lcK (own := [("page", 5)]) rfl S.nd (dik_keys (Sub.self ⟨P, w, K⟩) (dv 1)) (blkOk_by (by rfl)) (fun s H C cl fp => (dg_name (i := 5) S.nd rfl (by first | exact .inl rfl | exact .inr rfl))) (fun s H C cl fp => (dts_one (dt_cmp (od_nin hr.u65 8) (dv 5) (de_ix xd_seq (dv 4) de_int)))) (fun s H C cl fp => (de_tup (da_cons (dv 5) (da_cons (de_dgetB (Sub.self ⟨P, w, K⟩) hr.u1 (dv 1) (dv 5)) da_nil))))))))) (dss_one (ds_if (dt_cmp (od_eq hr.units 8) (de_ix xd_seq (dv 4) de_int) de_str) (dss_one (ds_setixC (Sub.self ⟨P, w, K⟩) (dv 3) (de_ix xd_seq (dv 4) de_int) (de_ix xd_seq (dv 4) de_int))) (dss_one (ds_set (i := 2) S.nd rfl (by first | exact .inl rfl | exact .inr rfl) (de_if (dt_cmp (od_eq hr.units 8) (de_ix xd_seq (dv 4) de_int) de_str) (de_op od_add (dv 2) (de_ix xd_seq (dv 4) de_int)) (de_slice sd_seq (dv 2) do_none (do_some (de_ix xd_seq (dv 4) de_int))))))))))))) (dss_one (ds_ret (de_tup (da_cons (dv 1) (da_cons (dv 2) (da_cons (dv 3) da_nil)))))))), ?_⟩
  rintro ds s R hl ⟨d, dl, rfl, hd, hb, h⟩
  have hzl := sizeLine_eq
  simp only [dWhile, dParDF, dParFD, dPar3, dMetS, dCallX, dRaise, dInDO, dIxDO, dLstRg, dTupRg, dCallHX, dRet, dRetN, dSeq, dIfS, dSet, dPar, dAug, dFor, dDrop, dDropM, dSetM, dSetF, fLst, fItems, mBm, dNewD, dPutO, dNext, dBreak, dCont, dAndV, dOrV, dNotV, dAnd, dOr, dNot, dB, dIf, dTup, dLst, dOp, dUn, dCallP, dCall, lfP, dCons, dNil, dVar, dC, dChain, dOpO, dCallO, dItems, dEnum, dRange1, dRange2, dLc, dLc2, dNoPart, dPart, dSl, dTru, gtName, gtTup, gtCons, gtNil, dYes, dGet, dGetO, dRevT, dRevL, lcBody, lcOut, lcIn, wipeD, dFld, dSetFld, dAugFld, dMeth, dMethX, dMake, dNewDc, dNewLc, dBmC, dOpC, dCallC, dSeqC, dIxC, dDGet, dDPut, dDDel, dDIn, dDGet2, dDPop2, dDLen, dDSort, dEqE, dSetIx, dSlC, dDictP, dLock, kKeys, dForK, dLcK, self_get, self_put, snd_get, snd_put, okV, okFst, okVX, List.map_cons, List.map_nil, List.cons_append, List.nil_append, List.length_cons, List.length_nil, Nat.reduceAdd, Nat.reduceSub, Nat.zero_add, Nat.sub_self, List.replicate_zero, List.replicate_succ, List.getElem?_cons_zero, List.getElem?_cons_succ, List.set_cons_zero, List.set_cons_succ, Option.some.injEq, Dv.Slot.d.injEq, Dv.Slot.own.injEq, Ob.lst.injEq, Ob.dic.injEq, exists_eq_left', exists_eq_left, exists_and_left, List.cons.injEq, and_true, true_and, and_assoc, D.raw.injEq, V.ty.injEq, D.bl.injEq, D.int.injEq, D.str.injEq, D.tup.injEq, D.lst.injEq, Bool.true_eq_false, Bool.false_eq_true, if_true, if_false, ite_true, ite_false, reduceIte, reduceCtorEq, false_or, or_false, itemsD_tup, itemsD_lst, itemsD_dic, exists_const, addP_int, addP_str, addP_tup, addP_lst, cmpP_int, intP_int, slD_tup, slD_lst, lenD_tup, lenD_lst, lenD_str]
  intro p hp0
  refine ⟨by omega, by omega, by omega, by omega, fun r hr0 => ⟨by omega, ?_⟩⟩
  obtain ⟨rp, hr1⟩ := un_upd hr0
  have k1 : Kp s (updS (updS s p (Cell.dct [])) r (Cell.lst [D.tup [], D.tup []])) := ((Kp.refl s).upd hp0).upd hr1
  refine kAny_deeds (fun Q h => ⟨d, rfl, h⟩) hd k1 fun ok hok => ⟨hok _ k1, ?_⟩
  refine for_mapgK (pre := []) (fun qs ρ (s2 : Cs) => ∃ p r d4 d5, ρ = [.d d, .d (.raw (.ref p)), .d (lineD (stD qs).log), .d (.raw (.ref r)), d4, d5] ∧ s p = none ∧ s r = none ∧ s2 p = some (.dct ((stD qs).pages.map pk)) ∧ s2 r = some (.lst ((stD qs).roots.map lineD)) ∧ Kp s s2)
    ⟨p, r, _, _, rfl, hp0, hr1, (updS_ne (Ne.symm rp)).trans updS_same, updS_same, k1⟩ ?_ ?_ (fun qs ρ s2 ⟨_, _, _, _, _, _, _, _, _, kk⟩ => hok s2 kk)
  · rintro qs x rs e ρ s2 ⟨p2, r2, d4, d5, rfl, hp2, hr2, ep, er, kk⟩ K1 hK1
    rw [List.nil_append] at e
    have hxm : x ∈ dl := by rw [e]; simp
    have hx := hb.2 x hxm
    have hq : okL qs := okL_take hb e
    obtain ⟨hs1, hs2, hs3, hs4⟩ := st_facts qs hq.2
    have hs5 := hq.1
    simp only [stD_snoc] at hK1
    have pr : p2 ≠ r2 := cell_ne ep er fun z => nomatch z
    simp only [dWhile, dParDF, dParFD, dPar3, dMetS, dCallX, dRaise, dInDO, dIxDO, dLstRg, dTupRg, dCallHX, dRet, dRetN, dSeq, dIfS, dSet, dPar, dAug, dFor, dDrop, dDropM, dSetM, dSetF, fLst, fItems, mBm, dNewD, dPutO, dNext, dBreak, dCont, dAndV, dOrV, dNotV, dAnd, dOr, dNot, dB, dIf, dTup, dLst, dOp, dUn, dCallP, dCall, lfP, dCons, dNil, dVar, dC, dChain, dOpO, dCallO, dItems, dEnum, dRange1, dRange2, dLc, dLc2, dNoPart, dPart, dSl, dTru, gtName, gtTup, gtCons, gtNil, dYes, dGet, dGetO, dRevT, dRevL, lcBody, lcOut, lcIn, wipeD, dFld, dSetFld, dAugFld, dMeth, dMethX, dMake, dNewDc, dNewLc, dBmC, dOpC, dCallC, dSeqC, dIxC, dDGet, dDPut, dDDel, dDIn, dDGet2, dDPop2, dDLen, dDSort, dEqE, dSetIx, dSlC, dDictP, dLock, kKeys, dForK, dLcK, self_get, self_put, snd_get, snd_put, okV, okFst, okVX, List.map_cons, List.map_nil, List.cons_append, List.nil_append, List.length_cons, List.length_nil, Nat.reduceAdd, Nat.reduceSub, Nat.zero_add, Nat.sub_self, List.replicate_zero, List.replicate_succ, List.getElem?_cons_zero, List.getElem?_cons_succ, List.set_cons_zero, List.set_cons_succ, Option.some.injEq, Dv.Slot.d.injEq, Dv.Slot.own.injEq, Ob.lst.injEq, Ob.dic.injEq, exists_eq_left', exists_eq_left, exists_and_left, List.cons.injEq, and_true, true_and, and_assoc, D.raw.injEq, V.ty.injEq, D.bl.injEq, D.int.injEq, D.str.injEq, D.tup.injEq, D.lst.injEq, Bool.true_eq_false, Bool.false_eq_true, if_true, if_false, ite_true, ite_false, reduceIte, reduceCtorEq, false_or, or_false, itemsD_tup, itemsD_lst, itemsD_dic, exists_const, addP_int, addP_str, addP_tup, addP_lst, cmpP_int, intP_int, slD_tup, slD_lst, lenD_tup, lenD_lst, lenD_str]
    cases x with
    | page q l =>
      refine ⟨_, tag_ix (.page q l), tag_shp (.page q l), shp_page, ?_⟩
      show (if isTag (.page q l) "page" = true then _ else _)
      rw [tag_page]
      refine (if_pos rfl).mpr ?_
      refine ⟨_, ixt2 _ _ _ _, _, ixt1 _ _ _, p2, rfl, _, ep, .inl q, rfl, by rw [List.length_map]; omega, ?_⟩
      refine hK1 _ _ (hok _ (kk.upd hp2)) ⟨p2, r2, _, _, rfl, hp2, hr2, ?_, (updS_ne pr.symm).trans ?_, kk.upd hp2⟩
      · rw [updS_same, putD_pk]
        rfl
      · exact er
    | free q =>
      refine ⟨_, tag_ix (.free q), tag_shp (.free q), shp_page, ?_⟩
      show (if isTag (.free q) "page" = true then _ else _)
      rw [tag_page]
      refine (if_neg Bool.false_ne_true).mpr ?_
      refine ⟨_, tag_ix (.free q), tag_shp (.free q), shp_free, ?_⟩
      show (if isTag (.free q) "free" = true then _ else _)
      rw [tag_free]
      refine (if_pos rfl).mpr ?_
      refine ⟨p2, _, ep, fun od vs => ⟨p2, rfl, od, vs, _, updS_same, (stD qs).pages.map (·.1), pk_keys _, fun hz => ⟨by rw [List.length_map, List.length_map]; omega, updS_same, ?_⟩⟩⟩
      rw [List.map_map]
      refine lc_filterK (g := fun x : Int × List Nat => D.int x.1) (fun x => decide (x.1 ≠ q)) (fun x => .tup [.int x.1, lineD x.2]) updS_same (fun y hy K2 hK2 => ?_) ?_
      · simp only [dWhile, dParDF, dParFD, dPar3, dMetS, dCallX, dRaise, dInDO, dIxDO, dLstRg, dTupRg, dCallHX, dRet, dRetN, dSeq, dIfS, dSet, dPar, dAug, dFor, dDrop, dDropM, dSetM, dSetF, fLst, fItems, mBm, dNewD, dPutO, dNext, dBreak, dCont, dAndV, dOrV, dNotV, dAnd, dOr, dNot, dB, dIf, dTup, dLst, dOp, dUn, dCallP, dCall, lfP, dCons, dNil, dVar, dC, dChain, dOpO, dCallO, dItems, dEnum, dRange1, dRange2, dLc, dLc2, dNoPart, dPart, dSl, dTru, gtName, gtTup, gtCons, gtNil, dYes, dGet, dGetO, dRevT, dRevL, lcBody, lcOut, lcIn, wipeD, dFld, dSetFld, dAugFld, dMeth, dMethX, dMake, dNewDc, dNewLc, dBmC, dOpC, dCallC, dSeqC, dIxC, dDGet, dDPut, dDDel, dDIn, dDGet2, dDPop2, dDLen, dDSort, dEqE, dSetIx, dSlC, dDictP, dLock, kKeys, dForK, dLcK, self_get, self_put, snd_get, snd_put, okV, okFst, okVX, List.map_cons, List.map_nil, List.cons_append, List.nil_append, List.length_cons, List.length_nil, Nat.reduceAdd, Nat.reduceSub, Nat.zero_add, Nat.sub_self, List.replicate_zero, List.replicate_succ, List.getElem?_cons_zero, List.getElem?_cons_succ, List.set_cons_zero, List.set_cons_succ, Option.some.injEq, Dv.Slot.d.injEq, Dv.Slot.own.injEq, Ob.lst.injEq, Ob.dic.injEq, exists_eq_left', exists_eq_left, exists_and_left, List.cons.injEq, and_true, true_and, and_assoc, D.raw.injEq, V.ty.injEq, D.bl.injEq, D.int.injEq, D.str.injEq, D.tup.injEq, D.lst.injEq, Bool.true_eq_false, Bool.false_eq_true, if_true, if_false, ite_true, ite_false, reduceIte, reduceCtorEq, false_or, or_false, itemsD_tup, itemsD_lst, itemsD_dic, exists_const, addP_int, addP_str, addP_tup, addP_lst, cmpP_int, intP_int, slD_tup, slD_lst, lenD_tup, lenD_lst, lenD_str]
        refine ⟨_, ixt1 _ _ _, _, .inl rfl, shp_int _ _, fun z hz2 => by rw [List.mem_singleton.mp hz2]; exact shp_int _ _, ?_⟩
        rw [show [D.int q] = [q].map D.int from rfl, inD_ints]
        by_cases hyq : y.1 = q
        · rw [if_neg (by simp [hyq])]
          rw [if_neg (by simp [hyq])] at hK2
          exact hK2
        · rw [if_pos (by simp [hyq])]
          rw [if_pos (by simp [hyq])] at hK2
          exact ⟨p2, rfl, _, updS_same, _, rfl, .inl y.1, rfl, lineD y.2, by rw [valD_pk, getP_mem hs4 y hy]; rfl, by omega, hK2⟩
      · refine ⟨updS_same, _, free_items q, fun a ha => ?_⟩
        obtain ⟨ap, ha⟩ := un_upd ha
        obtain ⟨_, ha⟩ := un_upd ha
        have ha0 := kk.un ha
        have k3 := (((kk.upd hp2).upd hp2).upd ha0 : Kp s (updS (updS (updS s2 p2 (Cell.lck od vs (List.map pk (stD qs).pages))) p2 (Cell.dct (List.map pk (stD qs).pages))) a (Cell.dct (mergeD [] ((dropP (stD qs).pages q).map pk)))))
        refine hK1 _ _ (hok _ k3) ⟨a, r2, _, _, rfl, ha0, hr2, ?_, ?_, k3⟩
        · rw [updS_same, merge_pk (dropP_nodup hs4 q)]
          rfl
        · rw [updS_ne (fun z => by rw [← z, er] at ha; cases ha), updS_ne pr.symm, updS_ne pr.symm]
          exact er
    | root i l =>
      refine ⟨_, tag_ix (.root i l), tag_shp (.root i l), shp_page, ?_⟩
      show (if isTag (.root i l) "page" = true then _ else _)
      rw [tag_page]
      refine (if_neg Bool.false_ne_true).mpr ?_
      refine ⟨_, tag_ix (.root i l), tag_shp (.root i l), shp_free, ?_⟩
      show (if isTag (.root i l) "free" = true then _ else _)
      rw [tag_free]
      refine (if_neg Bool.false_ne_true).mpr ?_
      refine ⟨_, tag_ix (.root i l), tag_shp (.root i l), shp_root, ?_⟩
      show (if isTag (.root i l) "root" = true then _ else _)
      rw [tag_root]
      refine (if_pos rfl).mpr ?_
      refine ⟨_, ixt2 _ _ _ _, _, ixt1 _ _ _, r2, rfl, _, er, _, rfl, i, by rw [List.length_map]; exact ix01 hs3 hx.2, ?_⟩
      refine hK1 _ _ (hok _ (kk.upd hr2)) ⟨p2, r2, _, _, rfl, hp2, hr2, (updS_ne pr).trans ep, ?_, kk.upd hr2⟩
      rw [updS_same, ← List.map_set]
      rfl
    | log l =>
      refine ⟨_, tag_ix (.log l), tag_shp (.log l), shp_page, ?_⟩
      show (if isTag (.log l) "page" = true then _ else _)
      rw [tag_page]
      refine (if_neg Bool.false_ne_true).mpr ?_
      refine ⟨_, tag_ix (.log l), tag_shp (.log l), shp_free, ?_⟩
      show (if isTag (.log l) "free" = true then _ else _)
      rw [tag_free]
      refine (if_neg Bool.false_ne_true).mpr ?_
      refine ⟨_, tag_ix (.log l), tag_shp (.log l), shp_root, ?_⟩
      show (if isTag (.log l) "root" = true then _ else _)
      rw [tag_root]
      refine (if_neg Bool.false_ne_true).mpr ?_
      refine ⟨_, tag_ix (.log l), tag_shp (.log l), shp_log, ?_⟩
      show (if isTag (.log l) "log" = true then _ else _)
      rw [tag_log]
      refine (if_pos rfl).mpr ?_
      refine ⟨_, ixt1 _ _ _, ?_⟩
      have hl2 : l.length ≤ 1000 := hx
      rw [addP_line]
      exact ⟨by omega, hK1 _ _ (hok _ kk) ⟨p2, r2, _, _, rfl, hp2, hr2, ep, er, kk⟩⟩
    | keep m =>
      refine ⟨_, tag_ix (.keep m), tag_shp (.keep m), shp_page, ?_⟩
      show (if isTag (.keep m) "page" = true then _ else _)
      rw [tag_page]
      refine (if_neg Bool.false_ne_true).mpr ?_
      refine ⟨_, tag_ix (.keep m), tag_shp (.keep m), shp_free, ?_⟩
      show (if isTag (.keep m) "free" = true then _ else _)
      rw [tag_free]
      refine (if_neg Bool.false_ne_true).mpr ?_
      refine ⟨_, tag_ix (.keep m), tag_shp (.keep m), shp_root, ?_⟩
      show (if isTag (.keep m) "root" = true then _ else _)
      rw [tag_root]
      refine (if_neg Bool.false_ne_true).mpr ?_
      refine ⟨_, tag_ix (.keep m), tag_shp (.keep m), shp_log, ?_⟩
      show (if isTag (.keep m) "log" = true then _ else _)
      rw [tag_log]
      refine (if_neg Bool.false_ne_true).mpr ?_
      exact ⟨_, ixt1 _ _ _, _, rfl, _, cut_to _ m, hK1 _ _ (hok _ kk) ⟨p2, r2, _, _, rfl, hp2, hr2, ep, er, kk⟩⟩
  · rintro ρ s2 ⟨p2, r2, d4, d5, rfl, hp2, hr2, ep, er, kk⟩
    rw [List.nil_append] at ep er
    simp only [dWhile, dParDF, dParFD, dPar3, dMetS, dCallX, dRaise, dInDO, dIxDO, dLstRg, dTupRg, dCallHX, dRet, dRetN, dSeq, dIfS, dSet, dPar, dAug, dFor, dDrop, dDropM, dSetM, dSetF, fLst, fItems, mBm, dNewD, dPutO, dNext, dBreak, dCont, dAndV, dOrV, dNotV, dAnd, dOr, dNot, dB, dIf, dTup, dLst, dOp, dUn, dCallP, dCall, lfP, dCons, dNil, dVar, dC, dChain, dOpO, dCallO, dItems, dEnum, dRange1, dRange2, dLc, dLc2, dNoPart, dPart, dSl, dTru, gtName, gtTup, gtCons, gtNil, dYes, dGet, dGetO, dRevT, dRevL, lcBody, lcOut, lcIn, wipeD, dFld, dSetFld, dAugFld, dMeth, dMethX, dMake, dNewDc, dNewLc, dBmC, dOpC, dCallC, dSeqC, dIxC, dDGet, dDPut, dDDel, dDIn, dDGet2, dDPop2, dDLen, dDSort, dEqE, dSetIx, dSlC, dDictP, dLock, kKeys, dForK, dLcK, self_get, self_put, snd_get, snd_put, okV, okFst, okVX, List.map_cons, List.map_nil, List.cons_append, List.nil_append, List.length_cons, List.length_nil, Nat.reduceAdd, Nat.reduceSub, Nat.zero_add, Nat.sub_self, List.replicate_zero, List.replicate_succ, List.getElem?_cons_zero, List.getElem?_cons_succ, List.set_cons_zero, List.set_cons_succ, Option.some.injEq, Dv.Slot.d.injEq, Dv.Slot.own.injEq, Ob.lst.injEq, Ob.dic.injEq, exists_eq_left', exists_eq_left, exists_and_left, List.cons.injEq, and_true, true_and, and_assoc, D.raw.injEq, V.ty.injEq, D.bl.injEq, D.int.injEq, D.str.injEq, D.tup.injEq, D.lst.injEq, Bool.true_eq_false, Bool.false_eq_true, if_true, if_false, ite_true, ite_false, reduceIte, reduceCtorEq, false_or, or_false, itemsD_tup, itemsD_lst, itemsD_dic, exists_const, addP_int, addP_str, addP_tup, addP_lst, cmpP_int, intP_int, slD_tup, slD_lst, lenD_tup, lenD_lst, lenD_str]
    exact ⟨by omega, h p2 r2 s2 hp2 hr2 ep er kk⟩

end
end K15

set_option Elab.async false
set_option linter.all false
set_option maxRecDepth 100000
set_option maxHeartbeats 2000000
namespace K15
open PySem L2 Dv Bg
/-- a page as the law reads it -/
def rdD (dl : List Deed) (q : Int) : D := match getP (stD dl).pages q with | some l => lineD l | none => .str "bad"
def o_readL (CDisk : Addr) : OkC := fun ds s R => ∃ (q : Int) (A : Bg.DA) (dl : List Deed), ds = [.raw (.ref A.a), .int q] ∧ DiskAt CDisk s A dl ∧ R (rdD dl q) s
def o_readX (CDisk C : Addr) : OkCX := fun ds s R RE => ∃ (q : Int) (A : Bg.DA) (dl : List Deed), ds = [.raw (.ref A.a), .int q] ∧ DiskAt CDisk s A dl ∧ (match getP (stD dl).pages q with | some l => R (lineD l) s | none => RE (.ref C) s)
section
variable {P : Program} {w : World} {K : PySem.W.Frag} {mg : Str → Option Value} {base : Heap}
theorem ok_do {CDisk : Addr} (T : Bn mg) (F_Disk : ClF K CDisk fs_Disk) (Df : Def K mg "_law_do" s__law_do ["disk", "deed"]) (M_Disk_write : Mth P w K mg base CX0 CDisk "write" 1 ["self", "page", "line"] (spD ⟨P, w, K⟩ (Wc ⟨P, w, K⟩) 3 (o_deed CDisk a_write))) (M_Disk_append : Mth P w K mg base CX0 CDisk "append" 1 ["self", "line"] (spD ⟨P, w, K⟩ (Wc ⟨P, w, K⟩) 2 (o_deed CDisk a_append))) (M_Disk_set_root : Mth P w K mg base CX0 CDisk "set_root" 1 ["self", "slot", "line"] (spD ⟨P, w, K⟩ (Wc ⟨P, w, K⟩) 3 (o_deed CDisk a_set_root))) (M_Disk_keep_log : Mth P w K mg base CX0 CDisk "keep_log" 1 ["self", "many"] (spD ⟨P, w, K⟩ (Wc ⟨P, w, K⟩) 2 (o_deed CDisk a_keep_log))) (M_Disk_free : Mth P w K mg base CX0 CDisk "free" 1 ["self", "pages"] (spD ⟨P, w, K⟩ (Wc ⟨P, w, K⟩) 2 (o_deed CDisk a_free))) : Cal P w K mg base "_law_do" 2 ["disk", "deed"] (spD ⟨P, w, K⟩ (Wc ⟨P, w, K⟩) 2 (o_deed CDisk a_do)) := by
  have S := sc__law_do
  refine Df.okW S rfl fun f cdv A outer s H E B hr => ?_
  refine ⟨_, (dss_one (ds_if (dt_cmp (od_eq hr.units 8) (de_ix xd_seq (dv 1) de_int) de_str) (dss_one (ds_expr (de_meth (Sub.self ⟨P, w, K⟩) F_Disk M_Disk_write (hr.mono (by decide)) (dv 0) (da_cons (de_ix xd_seq (dv 1) de_int) (da_cons (de_ix xd_seq (dv 1) de_int) da_nil))))) (dss_one (ds_if (dt_cmp (od_eq hr.units 8) (de_ix xd_seq (dv 1) de_int) de_str) (dss_one (ds_expr (de_meth (Sub.self ⟨P, w, K⟩) F_Disk M_Disk_append (hr.mono (by decide)) (dv 0) (da_cons (de_ix xd_seq (dv 1) de_int) da_nil)))) (dss_one (ds_if (dt_cmp (od_eq hr.units 8) (de_ix xd_seq (dv 1) de_int) de_str) (dss_one (ds_expr (de_meth (Sub.self ⟨P, w, K⟩) F_Disk M_Disk_set_root (hr.mono (by decide)) (dv 0) (da_cons (de_ix xd_seq (dv 1) de_int) (da_cons (de_ix xd_seq (dv 1) de_int) da_nil))))) (dss_one (ds_if (dt_cmp (od_eq hr.units 8) (de_ix xd_seq (dv 1) de_int) de_str) (dss_one (ds_expr (de_meth (Sub.self ⟨P, w, K⟩) F_Disk M_Disk_free (hr.mono (by decide)) (dv 0) (da_cons (de_ix xd_seq (dv 1) de_int) da_nil)))) (dss_one (ds_expr (de_meth (Sub.self ⟨P, w, K⟩) F_Disk M_Disk_keep_log (hr.mono (by decide)) (dv 0) (da_cons (de_ix xd_seq (dv 1) de_int) da_nil)))))))))))), ?_⟩
  rintro ds s R hl ⟨A, dl, x, as, ha, rfl, hA, hb, h⟩
  cases ha
  simp only [dWhile, dParDF, dParFD, dPar3, dMetS, dCallX, dRaise, dInDO, dIxDO, dLstRg, dTupRg, dCallHX, dRet, dRetN, dSeq, dIfS, dSet, dPar, dAug, dFor, dDrop, dDropM, dSetM, dSetF, fLst, fItems, mBm, dNewD, dPutO, dNext, dBreak, dCont, dAndV, dOrV, dNotV, dAnd, dOr, dNot, dB, dIf, dTup, dLst, dOp, dUn, dCallP, dCall, lfP, dCons, dNil, dVar, dC, dChain, dOpO, dCallO, dItems, dEnum, dRange1, dRange2, dLc, dLc2, dNoPart, dPart, dSl, dTru, gtName, gtTup, gtCons, gtNil, dYes, dGet, dGetO, dRevT, dRevL, lcBody, lcOut, lcIn, wipeD, dFld, dSetFld, dAugFld, dMeth, dMethX, dMake, dNewDc, dNewLc, dBmC, dOpC, dCallC, dSeqC, dIxC, dDGet, dDPut, dDDel, dDIn, dDGet2, dDPop2, dDLen, dDSort, dEqE, dSetIx, dSlC, dDictP, dLock, kAny, kKeys, dForK, dLcK, self_get, self_put, snd_get, snd_put, okV, okFst, okVX, List.map_cons, List.map_nil, List.cons_append, List.nil_append, List.length_cons, List.length_nil, Nat.reduceAdd, Nat.reduceSub, Nat.zero_add, Nat.sub_self, List.replicate_zero, List.replicate_succ, List.getElem?_cons_zero, List.getElem?_cons_succ, List.set_cons_zero, List.set_cons_succ, Option.some.injEq, Dv.Slot.d.injEq, Dv.Slot.own.injEq, Ob.lst.injEq, Ob.dic.injEq, exists_eq_left', exists_eq_left, exists_and_left, List.cons.injEq, and_true, true_and, and_assoc, D.raw.injEq, V.ty.injEq, D.bl.injEq, D.int.injEq, D.str.injEq, D.tup.injEq, D.lst.injEq, Bool.true_eq_false, Bool.false_eq_true, if_true, if_false, ite_true, ite_false, reduceIte, reduceCtorEq, false_or, or_false, itemsD_tup, itemsD_lst, itemsD_dic, exists_const, addP_int, addP_str, addP_tup, addP_lst, cmpP_int, intP_int, slD_tup, slD_lst, lenD_tup, lenD_lst, lenD_str]
  cases x with
  | page q l =>
    refine ⟨_, tag_ix (.page q l), tag_shp (.page q l), shp_page, ?_⟩
    show (if isTag (.page q l) "page" = true then _ else _)
    rw [tag_page]
    refine (if_pos rfl).mpr ?_
    exact ⟨A.a, rfl, _, hA.o, rfl, _, ixt1 _ _ _, _, ixt2 _ _ _ _, A, dl, .page q l, _, rfl, rfl, hA, hb, h⟩
  | log l =>
    refine ⟨_, tag_ix (.log l), tag_shp (.log l), shp_page, ?_⟩
    show (if isTag (.log l) "page" = true then _ else _)
    rw [tag_page]
    refine (if_neg Bool.false_ne_true).mpr ?_
    refine ⟨_, tag_ix (.log l), tag_shp (.log l), shp_log, ?_⟩
    show (if isTag (.log l) "log" = true then _ else _)
    rw [tag_log]
    refine (if_pos rfl).mpr ?_
    exact ⟨A.a, rfl, _, hA.o, rfl, _, ixt1 _ _ _, A, dl, .log l, _, rfl, rfl, hA, hb, h⟩
  | root i l =>
    refine ⟨_, tag_ix (.root i l), tag_shp (.root i l), shp_page, ?_⟩
    show (if isTag (.root i l) "page" = true then _ else _)
    rw [tag_page]
    refine (if_neg Bool.false_ne_true).mpr ?_
    refine ⟨_, tag_ix (.root i l), tag_shp (.root i l), shp_log, ?_⟩
    show (if isTag (.root i l) "log" = true then _ else _)
    rw [tag_log]
    refine (if_neg Bool.false_ne_true).mpr ?_
    refine ⟨_, tag_ix (.root i l), tag_shp (.root i l), shp_root, ?_⟩
    show (if isTag (.root i l) "root" = true then _ else _)
    rw [tag_root]
    refine (if_pos rfl).mpr ?_
    exact ⟨A.a, rfl, _, hA.o, rfl, _, ixt1 _ _ _, _, ixt2 _ _ _ _, A, dl, .root i l, _, rfl, rfl, hA, hb, h⟩
  | free q =>
    refine ⟨_, tag_ix (.free q), tag_shp (.free q), shp_page, ?_⟩
    show (if isTag (.free q) "page" = true then _ else _)
    rw [tag_page]
    refine (if_neg Bool.false_ne_true).mpr ?_
    refine ⟨_, tag_ix (.free q), tag_shp (.free q), shp_log, ?_⟩
    show (if isTag (.free q) "log" = true then _ else _)
    rw [tag_log]
    refine (if_neg Bool.false_ne_true).mpr ?_
    refine ⟨_, tag_ix (.free q), tag_shp (.free q), shp_root, ?_⟩
    show (if isTag (.free q) "root" = true then _ else _)
    rw [tag_root]
    refine (if_neg Bool.false_ne_true).mpr ?_
    refine ⟨_, tag_ix (.free q), tag_shp (.free q), shp_free, ?_⟩
    show (if isTag (.free q) "free" = true then _ else _)
    rw [tag_free]
    refine (if_pos rfl).mpr ?_
    exact ⟨A.a, rfl, _, hA.o, rfl, _, ixt1 _ _ _, A, dl, .free q, _, rfl, rfl, hA, hb, h⟩
  | keep m =>
    refine ⟨_, tag_ix (.keep m), tag_shp (.keep m), shp_page, ?_⟩
    show (if isTag (.keep m) "page" = true then _ else _)
    rw [tag_page]
    refine (if_neg Bool.false_ne_true).mpr ?_
    refine ⟨_, tag_ix (.keep m), tag_shp (.keep m), shp_log, ?_⟩
    show (if isTag (.keep m) "log" = true then _ else _)
    rw [tag_log]
    refine (if_neg Bool.false_ne_true).mpr ?_
    refine ⟨_, tag_ix (.keep m), tag_shp (.keep m), shp_root, ?_⟩
    show (if isTag (.keep m) "root" = true then _ else _)
    rw [tag_root]
    refine (if_neg Bool.false_ne_true).mpr ?_
    refine ⟨_, tag_ix (.keep m), tag_shp (.keep m), shp_free, ?_⟩
    show (if isTag (.keep m) "free" = true then _ else _)
    rw [tag_free]
    refine (if_neg Bool.false_ne_true).mpr ?_
    exact ⟨A.a, rfl, _, hA.o, rfl, _, ixt1 _ _ _, A, dl, .keep m, _, rfl, rfl, hA, hb, h⟩

theorem ok_readL {CDisk C Se : Addr} (T : Bn mg) (TC : TryC K mg C Se) (F_Disk : ClF K CDisk fs_Disk) (Df : Def K mg "_law_read" s__law_read ["disk", "page"]) (M_Disk_readX : Mth P w K mg base (L2.CX P w) CDisk "read" 1 ["self", "page"] (spX ⟨P, w, K⟩ (Wc ⟨P, w, K⟩) 2 (o_readX CDisk C))) : Cal P w K mg base "_law_read" 2 ["disk", "page"] (spD ⟨P, w, K⟩ (Wc ⟨P, w, K⟩) 2 (o_readL CDisk)) := by
  have S := sc__law_read
  refine Df.okWT S rfl fun f cdv A outer s H E B hr hB => ?_
  refine ⟨_, (dss_one (ds_tryAs C (i := 2) (ExLk.none hB) rfl rfl S.nd rfl (by rfl) ⟨rfl, by decide, .inl TC.gS⟩
    (fun B' pn xe xl hp => (dss_one (ds_ret (de_methXB (Sub.self ⟨P, w, K⟩) F_Disk M_Disk_readX xl (hr.mono (by decide)) (dv 0) (da_cons (dv 1) da_nil)))))
    (fun a oe pn hz hd => (dss_one (ds_ret (de_if (dt_val (de_callB (cd_isE (C := C) TC.F hz hd) rfl T.b_isinstance rfl (da_cons (dv 2) (da_cons (de_top rfl TC.gC) da_nil)))) de_str de_str)))))), ?_⟩
  rintro ds s R hl ⟨q, A, dl, rfl, hA, h⟩
  simp only [dWhile, dParDF, dParFD, dPar3, dMetS, dCallX, dRaise, dInDO, dIxDO, dLstRg, dTupRg, dCallHX, dRet, dRetN, dSeq, dIfS, dSet, dPar, dAug, dFor, dDrop, dDropM, dSetM, dSetF, fLst, fItems, mBm, dNewD, dPutO, dNext, dBreak, dCont, dAndV, dOrV, dNotV, dAnd, dOr, dNot, dB, dIf, dTup, dLst, dOp, dUn, dCallP, dCall, lfP, dCons, dNil, dVar, dC, dChain, dOpO, dCallO, dItems, dEnum, dRange1, dRange2, dLc, dLc2, dNoPart, dPart, dSl, dTru, gtName, gtTup, gtCons, gtNil, dYes, dGet, dGetO, dRevT, dRevL, lcBody, lcOut, lcIn, wipeD, dFld, dSetFld, dAugFld, dMeth, dMethX, dMake, dNewDc, dNewLc, dBmC, dOpC, dCallC, dSeqC, dIxC, dDGet, dDPut, dDDel, dDIn, dDGet2, dDPop2, dDLen, dDSort, dEqE, dSetIx, dSlC, dDictP, dLock, kAny, kKeys, dForK, dLcK, self_get, self_put, snd_get, snd_put, okV, okFst, okVX, List.map_cons, List.map_nil, List.cons_append, List.nil_append, List.length_cons, List.length_nil, Nat.reduceAdd, Nat.reduceSub, Nat.zero_add, Nat.sub_self, List.replicate_zero, List.replicate_succ, List.getElem?_cons_zero, List.getElem?_cons_succ, List.set_cons_zero, List.set_cons_succ, Option.some.injEq, Dv.Slot.d.injEq, Dv.Slot.own.injEq, Ob.lst.injEq, Ob.dic.injEq, exists_eq_left', exists_eq_left, exists_and_left, List.cons.injEq, and_true, true_and, and_assoc, D.raw.injEq, V.ty.injEq, D.bl.injEq, D.int.injEq, D.str.injEq, D.tup.injEq, D.lst.injEq, Bool.true_eq_false, Bool.false_eq_true, if_true, if_false, ite_true, ite_false, reduceIte, reduceCtorEq, false_or, or_false, itemsD_tup, itemsD_lst, itemsD_dic, exists_const, addP_int, addP_str, addP_tup, addP_lst, cmpP_int, intP_int, slD_tup, slD_lst, lenD_tup, lenD_lst, lenD_str, dTryAs]
  intro B' hex
  refine ⟨A.a, rfl, _, hA.o, gm_read _ _ _ _, q, A, dl, rfl, hA, ?_⟩
  unfold rdD at h
  cases e : getP (stD dl).pages q with
  | some l =>
    rw [e] at h
    exact h
  | none =>
    rw [e] at h
    exact hex _ _ _ ⟨true, TC.xm, fun _ => ⟨rfl, fun a => ⟨_, rfl, rfl, true, TC.kt, (if_pos rfl).mpr h⟩⟩, fun z => by cases z⟩
end
end K15

set_option Elab.async false
set_option linter.all false
set_option maxRecDepth 100000
set_option maxHeartbeats 2000000
namespace K15
open PySem L2 Dv Bg
abbrev s__law_same : Stmt := top 13
theorem sc__law_same : FnScope ["seen", "due", "k"] ["seen", "due"] (defScope s__law_same) := ⟨rfl, rfl, rfl, by decide +kernel, rfl, by decide +kernel, by decide +kernel⟩
abbrev s__law_draws : Stmt := top 9
theorem sc__law_draws : FnScope ["script", "many", "draws", "mixed", "k", "cell", "rest", "turn"] ["script", "many"] (defScope s__law_draws) := ⟨rfl, rfl, rfl, by decide +kernel, rfl, by decide +kernel, by decide +kernel⟩
abbrev s__law_next : Stmt := top 10
theorem sc__law_next : FnScope ["w", "many"] ["w", "many"] (defScope s__law_next) := ⟨rfl, rfl, rfl, by decide +kernel, rfl, by decide +kernel, by decide +kernel⟩
abbrev s__law_pick : Stmt := top 11
theorem sc__law_pick : FnScope ["w", "rows"] ["w", "rows"] (defScope s__law_pick) := ⟨rfl, rfl, rfl, by decide +kernel, rfl, by decide +kernel, by decide +kernel⟩
abbrev s__law_line : Stmt := top 18
theorem sc__law_line : FnScope ["w", "k"] ["w"] (defScope s__law_line) := ⟨rfl, rfl, rfl, by decide +kernel, rfl, by decide +kernel, by decide +kernel⟩
def cutI (xs : List Int) (lo hi : Option Int) : List Int := (xs.drop (HT.sIx xs.length 0 lo)).take (HT.sIx xs.length xs.length hi - HT.sIx xs.length 0 lo)
section
variable {P : Program} {w : World} {K : PySem.W.Frag} {mg : Str → Option Value} {base : Heap}
def o_smN (n : Nat) : PL := fun ds R => ∃ d, ds = [d, d] ∧ smOk n d = true ∧ R (.bl true)
theorem ok__law_same_up (T : Bn mg) (Df : Def K mg "_law_same" s__law_same ["seen", "due"]) (n k : Nat) (hn : n ≤ 7) (C_same : Cal P w K mg base "_law_same" k ["seen", "due"] (spP ⟨P, w, K⟩ 2 (o_smN n))) :
    Cal P w K mg base "_law_same" (k + 1) ["seen", "due"] (spP ⟨P, w, K⟩ 2 (o_smN (n + 1))) := by
  have S := sc__law_same
  refine Df.okP S rfl fun f cdv A outer s H E B hr => ?_
  refine ⟨_, (dss_cons (ds_if (dt_val (de_callB cd_isi rfl T.b_isinstance rfl (da_cons (dv 1) (da_cons (de_ty rfl T.b_tuple rfl) da_nil)))) (dss_cons (ds_if (dw_pt (dw_or (dt_not (dt_val (de_callB cd_isi rfl T.b_isinstance rfl (da_cons (dv 0) (da_cons (de_ty rfl T.b_tuple rfl) da_nil))))) (dw_or1 (dt_cmp (od_ne hr.units 8) (de_callB cd_len rfl T.b_len rfl (da_cons (dv 0) da_nil)) (de_callB cd_len rfl T.b_len rfl (da_cons (dv 1) da_nil)))))) (dss_one (ds_ret de_bl)) dss_nil) (dss_one (ds_ret (de_cmp (od_eq hr.units 8) (de_lc (own := [("k", 2)]) rfl S.nd (di_range1 rfl T.b_range (da_cons (de_callB cd_len rfl T.b_len rfl (da_cons (dv 1) da_nil)) da_nil)) (blkOk_by (by rfl)) (fun s H C cl fp => (dg_name (i := 2) S.nd rfl (by first | exact .inl rfl | exact .inr rfl))) (fun s H C cl fp => (dts_one (dt_not (dt_val (de_fnP C_same hr rfl (da_cons (de_ix xd_seq (dv 0) (dv 2)) (da_cons (de_ix xd_seq (dv 1) (dv 2)) da_nil))))))) (fun s H C cl fp => (dv 2))) (de_lst da_nil))))) dss_nil) (dss_cons (ds_if (dt_cmp od_isN (dv 1) de_non) (dss_one (ds_ret (de_cmp od_isN (dv 0) de_non))) dss_nil) (dss_cons (ds_if (dt_val (de_callB cd_isi rfl T.b_isinstance rfl (da_cons (dv 1) (da_cons (de_ty rfl T.b_str rfl) da_nil)))) (dss_one (ds_ret (de_and (de_callB cd_isi rfl T.b_isinstance rfl (da_cons (dv 0) (da_cons (de_ty rfl T.b_str rfl) da_nil))) (de_one (de_cmp (od_eq hr.units 8) (dv 0) (dv 1)))))) dss_nil) (dss_one (ds_ret (de_and (de_callB cd_isi rfl T.b_isinstance rfl (da_cons (dv 0) (da_cons (de_ty rfl T.b_int rfl) da_nil))) (de_and (de_cmp (od_eq hr.units 8) (de_callB cd_isi rfl T.b_isinstance rfl (da_cons (dv 0) (da_cons (de_ty rfl T.b_bool rfl) da_nil))) (de_callB cd_isi rfl T.b_isinstance rfl (da_cons (dv 1) (da_cons (de_ty rfl T.b_bool rfl) da_nil)))) (de_one (de_cmp (od_eq hr.units 8) (dv 0) (dv 1)))))))))), ?_⟩
  rintro ds R hl ⟨d, rfl, hd, h⟩
  simp only [dRet, dRetN, dSeq, dIfS, dSet, dPar, dAug, dFor, dDrop, dDropM, dSetM, dSetF, fLst, fItems, mBm, dNewD, dPutO, dNext, dBreak, dCont, dAndV, dOrV, dNotV, dAnd, dOr, dNot, dB, dIf, dTup, dLst, dOp, dUn, dCallP, dCall, lfP, dCons, dNil, dVar, dC, dChain, dOpO, dCallO, dItems, dEnum, dRange1, dRange2, dLc, dLc2, dNoPart, dPart, dSl, dTru, gtName, gtTup, gtCons, gtNil, dYes, dGet, dGetO, dRevT, dRevL, lcBody, lcOut, lcIn, wipeD, List.map_cons, List.map_nil, List.cons_append, List.nil_append, List.length_cons, List.length_nil, Nat.reduceAdd, Nat.reduceSub, Nat.zero_add, Nat.sub_self, List.replicate_zero, List.replicate_succ, List.getElem?_cons_zero, List.getElem?_cons_succ, List.set_cons_zero, List.set_cons_succ, Option.some.injEq, Dv.Slot.d.injEq, Dv.Slot.own.injEq, Ob.lst.injEq, Ob.dic.injEq, exists_eq_left', exists_eq_left, exists_and_left, List.cons.injEq, and_true, true_and, and_assoc, D.raw.injEq, V.ty.injEq, D.bl.injEq, D.int.injEq, D.str.injEq, D.tup.injEq, D.lst.injEq, Bool.true_eq_false, Bool.false_eq_true, if_true, if_false, ite_true, ite_false, reduceIte, reduceCtorEq, false_or, or_false, itemsD_tup, itemsD_lst, itemsD_dic, exists_const]
  have h8 : shp 8 d = true := shp_le (smOk_shp hd) (by omega)
  have hee : eqD d d = true := smOk_eq hd
  have ei : ∀ n, n ∈ ["bool", "int", "str", "tuple", "list", "dict"] → isiD d n = some (isI d n) := fun n hn => isiD_eq (shp_raw h8) hn
  refine ⟨_, ei _ (by decide), ?_⟩
  cases d with
  | tup xs =>
    refine (if_pos rfl).mpr ⟨_, ei _ (by decide), (if_neg (by show ¬ (false = true); decide)).mpr ⟨xs.length, rfl, fun hz => ⟨xs.length, rfl, fun _ => ⟨shp_int _ _, shp_int _ _, ?_⟩⟩⟩⟩
    rw [eq_int, decide_eq_true rfl]
    have hz2 := sizeLine_eq
    refine (if_neg (by decide)).mpr ⟨xs.length, rfl, fun _ => ⟨by omega, by omega, by simpa [rangeD] using hz, ?_⟩⟩
    rw [rangeD_map, show ((xs.length : Nat) : Int).toNat = xs.length from rfl]
    refine lc_filter (fun _ => false) (fun _ => .non) (fun j hj K hk => ?_) ?_
    · have hjl : j < xs.length := by simpa using hj
      have hx : xs[j]? = some xs[j] := List.getElem?_eq_getElem hjl
      have ea : ixD (.tup xs) (0 + (j : Nat)) = some xs[j] := by
        rw [Int.zero_add]
        exact atI_nat hx
      simp only [dRet, dRetN, dSeq, dIfS, dSet, dPar, dAug, dFor, dDrop, dDropM, dSetM, dSetF, fLst, fItems, mBm, dNewD, dPutO, dNext, dBreak, dCont, dAndV, dOrV, dNotV, dAnd, dOr, dNot, dB, dIf, dTup, dLst, dOp, dUn, dCallP, dCall, lfP, dCons, dNil, dVar, dC, dChain, dOpO, dCallO, dItems, dEnum, dRange1, dRange2, dLc, dLc2, dNoPart, dPart, dSl, dTru, gtName, gtTup, gtCons, gtNil, dYes, dGet, dGetO, dRevT, dRevL, lcBody, lcOut, lcIn, wipeD, List.map_cons, List.map_nil, List.cons_append, List.nil_append, List.length_cons, List.length_nil, Nat.reduceAdd, Nat.reduceSub, Nat.zero_add, Nat.sub_self, List.replicate_zero, List.replicate_succ, List.getElem?_cons_zero, List.getElem?_cons_succ, List.set_cons_zero, List.set_cons_succ, Option.some.injEq, Dv.Slot.d.injEq, Dv.Slot.own.injEq, Ob.lst.injEq, Ob.dic.injEq, exists_eq_left', exists_eq_left, exists_and_left, List.cons.injEq, and_true, true_and, and_assoc, D.raw.injEq, V.ty.injEq, D.bl.injEq, D.int.injEq, D.str.injEq, D.tup.injEq, D.lst.injEq, Bool.true_eq_false, Bool.false_eq_true, if_true, if_false, ite_true, ite_false, reduceIte, reduceCtorEq, false_or, or_false, itemsD_tup, itemsD_lst, itemsD_dic, exists_const, if_true, dNot]
      rw [smOk, List.all_eq_true] at hd
      exact ⟨_, ea, _, ea, xs[j], rfl, hd _ (List.getElem_mem hjl), _, rfl, hk⟩
    · refine ⟨Nat.zero_le _, ?_, ?_, ?_⟩
      · simp [shp_lst]
      · simp [shp_lst]
      · have en : (List.range xs.length).filter (fun _ => false) = [] := by simp [List.filter_eq_nil_iff]
        rw [eq_nil, en]
        exact h
  | non => exact h
  | str x => exact (if_neg Bool.false_ne_true).mpr ((if_neg Bool.false_ne_true).mpr ⟨_, ei _ (by decide), (if_pos rfl).mpr ⟨_, ei _ (by decide), (if_pos rfl).mpr ⟨h8, h8, by rw [hee]; exact h⟩⟩⟩)
  | int i => exact (if_neg Bool.false_ne_true).mpr ((if_neg Bool.false_ne_true).mpr ⟨_, ei _ (by decide), (if_neg Bool.false_ne_true).mpr ⟨_, ei _ (by decide), (if_pos rfl).mpr ⟨_, ei _ (by decide), _, ei _ (by decide), shp_bl _ _, shp_bl _ _, by
      rw [eq_bl, beq_self_eq_true]
      exact (if_pos rfl).mpr ⟨h8, h8, by rw [hee]; exact h⟩⟩⟩⟩)
  | bl i => exact (if_neg Bool.false_ne_true).mpr ((if_neg Bool.false_ne_true).mpr ⟨_, ei _ (by decide), (if_neg Bool.false_ne_true).mpr ⟨_, ei _ (by decide), (if_pos rfl).mpr ⟨_, ei _ (by decide), _, ei _ (by decide), shp_bl _ _, shp_bl _ _, by
      rw [eq_bl, beq_self_eq_true]
      exact (if_pos rfl).mpr ⟨h8, h8, by rw [hee]; exact h⟩⟩⟩⟩)
  | lst _ => cases hd
  | dic _ => cases hd
  | raw _ => cases hd
theorem ok_same_n (T : Bn mg) (Df : Def K mg "_law_same" s__law_same ["seen", "due"]) : ∀ n : Nat, n ≤ 8 → Cal P w K mg base "_law_same" (n + 1) ["seen", "due"] (spP ⟨P, w, K⟩ 2 (o_smN n))
  | 0, _ => Df.never fun ds R ⟨d, _, z, _⟩ => by simp [smOk] at z
  | n + 1, h => ok__law_same_up T Df n (n + 1) (by omega) (ok_same_n T Df n (by omega))
def o__law_same : PL := o_smN 6
theorem ok__law_same (T : Bn mg) (Df : Def K mg "_law_same" s__law_same ["seen", "due"]) : Cal P w K mg base "_law_same" 7 ["seen", "due"] (spP ⟨P, w, K⟩ 2 o__law_same) := ok_same_n T Df 6 (by decide)

def o__law_draws : PL := fun ds R => ∃ ns : List Int, ds = [.lst (ns.map .int), .int 600] ∧ ns.length ≤ 63 ∧ ∀ ms : List Int, R (.lst (ms.map .int))
theorem ok__law_draws (T : Bn mg) (Df : Def K mg "_law_draws" s__law_draws ["script", "many"])   : Cal P w K mg base "_law_draws" 1 ["script", "many"] (spP ⟨P, w, K⟩ 2 o__law_draws) := by
  have S := sc__law_draws
  refine Df.okP S rfl fun f cdv A outer s H E B hr => ?_
  refine ⟨_, (dss_cons (ds_setF (i := 2) S.nd rfl (by first | exact .inl rfl | exact .inr rfl) (df_lst da_nil)) (dss_cons (ds_set (i := 3) S.nd rfl (by first | exact .inl rfl | exact .inr rfl) de_int) (dss_cons (ds_for PassesOwn.never rfl (di_range1 rfl T.b_range (da_cons (de_callB cd_len rfl T.b_len rfl (da_cons (dv 0) da_nil)) da_nil)) (dg_name (i := 4) S.nd rfl (by first | exact .inl rfl | exact .inr rfl)) (dss_cons (ds_set (i := 5) S.nd rfl (by first | exact .inl rfl | exact .inr rfl) (de_callB cd_abs rfl T.b_abs rfl (da_cons (de_callTy cd_intI rfl T.b_int rfl (da_cons (de_ix xd_seq (dv 0) (dv 4)) da_nil)) da_nil))) (dss_cons (ds_set (i := 3) S.nd rfl (by first | exact .inl rfl | exact .inr rfl) (de_op od_mod (de_callTy cd_intI rfl T.b_int rfl (da_cons (de_op od_add (de_op od_add (de_op od_mul (dv 3) de_int) (de_op od_mod (dv 5) de_int)) (dv 4)) da_nil)) de_int)) (dss_cons (ds_set (i := 6) S.nd rfl (by first | exact .inl rfl | exact .inr rfl) de_int) (dss_cons (ds_if (dt_cmp (od_ge hr.units) (dv 5) (de_op od_pow de_int de_int)) (dss_one (ds_set (i := 6) S.nd rfl (by first | exact .inl rfl | exact .inr rfl) (dv 5))) (dss_cons (ds_exprM (dm_bm PySem.F.slot_list_append PySem.F.type_list_append ow_append (pv 2) (da_cons (de_op od_mod (de_callTy cd_intI rfl T.b_int rfl (da_cons (dv 5) da_nil)) de_int) da_nil))) (dss_one (ds_exprM (dm_bm PySem.F.slot_list_append PySem.F.type_list_append ow_append (pv 2) (da_cons (de_op od_mod (de_op od_mod (de_callTy cd_intI rfl T.b_int rfl (da_cons (de_op od_add (de_op od_mul (dv 3) de_int) de_int) da_nil)) de_int) de_int) da_nil)))))) (dss_one (ds_for PassesOwn.never rfl (di_range1 rfl T.b_range (da_cons de_int da_nil)) (dg_name (i := 7) S.nd rfl (by first | exact .inl rfl | exact .inr rfl)) (dss_one (ds_if (dt_cmp (od_gt hr.units) (dv 6) de_int) (dss_cons (ds_exprM (dm_bm PySem.F.slot_list_append PySem.F.type_list_append ow_append (pv 2) (da_cons (de_op od_mod (de_callTy cd_intI rfl T.b_int rfl (da_cons (dv 6) da_nil)) de_int) da_nil))) (dss_one (ds_set (i := 6) S.nd rfl (by first | exact .inl rfl | exact .inr rfl) (de_op od_fdiv (dv 6) de_int)))) dss_nil))))))))) (dss_cons (ds_for PassesOwn.never rfl (di_range1 rfl T.b_range (da_cons (dv 1) da_nil)) (dg_name (i := 4) S.nd rfl (by first | exact .inl rfl | exact .inr rfl)) (dss_cons (ds_set (i := 3) S.nd rfl (by first | exact .inl rfl | exact .inr rfl) (de_op od_mod (de_callTy cd_intI rfl T.b_int rfl (da_cons (de_op od_add (de_op od_add (de_op od_mul (dv 3) de_int) (dv 4)) de_int) da_nil)) de_int)) (dss_one (ds_exprM (dm_bm PySem.F.slot_list_append PySem.F.type_list_append ow_append (pv 2) (da_cons (de_op od_mod (de_callTy cd_intI rfl T.b_int rfl (da_cons (dv 3) da_nil)) de_int) da_nil)))))) (dss_freeze 2 (dss_one (ds_ret (de_slice sd_seq (dv 2) do_none (do_some (dv 1)))))))))), ?_⟩
  rintro ds R hl ⟨ns, rfl, hlen, h⟩
  have hzl := sizeLine_eq
  have hmul : ∀ m j : Int, 0 ≤ m → m < 65537 → j.natAbs < 100000 → CMulW m j := fun m j h1 h2 h3 => by
    unfold CMulW
    have := Nat.log2_le_self m.natAbs
    have := Nat.log2_le_self j.natAbs
    omega
  simp only [dRet, dRetN, dSeq, dIfS, dSet, dPar, dAug, dFor, dDrop, dDropM, dSetM, dSetF, fLst, fItems, mBm, dNewD, dPutO, dNext, dBreak, dCont, dAndV, dOrV, dNotV, dAnd, dOr, dNot, dB, dIf, dTup, dLst, dOp, dUn, dCallP, dCall, lfP, dCons, dNil, dVar, dC, dChain, dOpO, dCallO, dItems, dEnum, dRange1, dRange2, dLc, dLc2, dNoPart, dPart, dSl, dTru, gtName, gtTup, gtCons, gtNil, dYes, dGet, dGetO, dRevT, dRevL, lcBody, lcOut, lcIn, wipeD, List.map_cons, List.map_nil, List.cons_append, List.nil_append, List.length_cons, List.length_nil, Nat.reduceAdd, Nat.reduceSub, Nat.zero_add, Nat.sub_self, List.replicate_zero, List.replicate_succ, List.getElem?_cons_zero, List.getElem?_cons_succ, List.set_cons_zero, List.set_cons_succ, Option.some.injEq, Dv.Slot.d.injEq, Dv.Slot.own.injEq, Ob.lst.injEq, Ob.dic.injEq, exists_eq_left', exists_eq_left, exists_and_left, List.cons.injEq, and_true, true_and, and_assoc, D.raw.injEq, V.ty.injEq, D.bl.injEq, D.int.injEq, D.str.injEq, D.tup.injEq, D.lst.injEq, Bool.true_eq_false, Bool.false_eq_true, if_true, if_false, ite_true, ite_false, reduceIte, reduceCtorEq, false_or, or_false, itemsD_tup, itemsD_lst, itemsD_dic, exists_const]
  refine ⟨by omega, ns.length, by simp [lenD], fun _ => ⟨by omega, by omega, ?_⟩⟩
  rw [rangeD_map, show ((ns.length : Nat) : Int).toNat = ns.length from rfl]
  refine for_mapg (pre := []) (fun qs ρ _ => ∃ (ms : List Int) (m : Int) (x4 x5 x6 x7 : Slot), ρ = [.d (.lst (ns.map .int)), .d (.int 600), .own (.lst (ms.map .int)), .d (.int m), x4, x5, x6, x7] ∧ 0 ≤ m ∧ m < 65537 ∧ ms.length ≤ 62 * qs.length) ⟨[], 7, _, _, _, _, rfl, by decide, by decide, by decide⟩ ?_ ?_
  · rintro qs k rest er ρ s ⟨ms, m, x4, x5, x6, x7, rfl, hm1, hm2, hms⟩ K hK
    rw [List.nil_append] at er
    have hk : k < ns.length := by
      have : k ∈ List.range ns.length := by rw [er]; simp
      simpa using this
    have hqs : qs.length < ns.length := by
      have := congrArg List.length er
      simp at this
      omega
    have ea : ixD (.lst (ns.map .int)) (0 + (k : Nat)) = some (.int ns[k]) := by
      rw [Int.zero_add]
      refine (atI_nat ?_ : atI (ns.map D.int) _ = _)
      rw [List.getElem?_map, List.getElem?_eq_getElem hk]
      rfl
    simp only [dRet, dRetN, dSeq, dIfS, dSet, dPar, dAug, dFor, dDrop, dDropM, dSetM, dSetF, fLst, fItems, mBm, dNewD, dPutO, dNext, dBreak, dCont, dAndV, dOrV, dNotV, dAnd, dOr, dNot, dB, dIf, dTup, dLst, dOp, dUn, dCallP, dCall, lfP, dCons, dNil, dVar, dC, dChain, dOpO, dCallO, dItems, dEnum, dRange1, dRange2, dLc, dLc2, dNoPart, dPart, dSl, dTru, gtName, gtTup, gtCons, gtNil, dYes, dGet, dGetO, dRevT, dRevL, lcBody, lcOut, lcIn, wipeD, List.map_cons, List.map_nil, List.cons_append, List.nil_append, List.length_cons, List.length_nil, Nat.reduceAdd, Nat.reduceSub, Nat.zero_add, Nat.sub_self, List.replicate_zero, List.replicate_succ, List.getElem?_cons_zero, List.getElem?_cons_succ, List.set_cons_zero, List.set_cons_succ, Option.some.injEq, Dv.Slot.d.injEq, Dv.Slot.own.injEq, Ob.lst.injEq, Ob.dic.injEq, exists_eq_left', exists_eq_left, exists_and_left, List.cons.injEq, and_true, true_and, and_assoc, D.raw.injEq, V.ty.injEq, D.bl.injEq, D.int.injEq, D.str.injEq, D.tup.injEq, D.lst.injEq, Bool.true_eq_false, Bool.false_eq_true, if_true, if_false, ite_true, ite_false, reduceIte, reduceCtorEq, false_or, or_false, itemsD_tup, itemsD_lst, itemsD_dic, exists_const, intP, addP, cmpP]
    refine ⟨_, ea, ns[k], rfl, hmul _ _ hm1 hm2 (by decide), by decide, by decide, ⟨by decide, by decide, by decide⟩, ?_⟩
    generalize (if ns[k] < 0 then -ns[k] else ns[k]) = cell
    have hm3 : 0 ≤ (m * 48271 + cell % 1000003 + (0 + (k : Nat))) % 65537 := Int.emod_nonneg _ (by decide)
    have hm4 : (m * 48271 + cell % 1000003 + (0 + (k : Nat))) % 65537 < 65537 := Int.emod_lt_of_pos _ (by decide)
    generalize (m * 48271 + cell % 1000003 + (0 + (k : Nat))) % 65537 = m2 at *
    by_cases hc : 10 ^ Int.toNat 18 ≤ cell
    · rw [decide_eq_true hc]
      refine (if_pos rfl).mpr ⟨by decide, by decide, ?_⟩
      refine for_mapg (pre := []) (fun ts ρ _ => ∃ (ms2 : List Int) (r2 : Int) (x7 : Slot), ρ = [.d (.lst (ns.map .int)), .d (.int 600), .own (.lst (ms2.map .int)), .d (.int m2), .d (.int (0 + (k : Nat))), .d (.int cell), .d (.int r2), x7] ∧ ms2.length ≤ 62 * qs.length + 2 + ts.length) ⟨ms, cell, _, rfl, by simp; omega⟩ ?_ ?_
      · rintro ts t0 rest2 er2 ρ s ⟨ms2, r2, x7, rfl, hl2⟩ K2 hK2
        have hts : ts.length < 60 := by
          have := congrArg List.length er2
          simp at this
          omega
        simp only [dRet, dRetN, dSeq, dIfS, dSet, dPar, dAug, dFor, dDrop, dDropM, dSetM, dSetF, fLst, fItems, mBm, dNewD, dPutO, dNext, dBreak, dCont, dAndV, dOrV, dNotV, dAnd, dOr, dNot, dB, dIf, dTup, dLst, dOp, dUn, dCallP, dCall, lfP, dCons, dNil, dVar, dC, dChain, dOpO, dCallO, dItems, dEnum, dRange1, dRange2, dLc, dLc2, dNoPart, dPart, dSl, dTru, gtName, gtTup, gtCons, gtNil, dYes, dGet, dGetO, dRevT, dRevL, lcBody, lcOut, lcIn, wipeD, List.map_cons, List.map_nil, List.cons_append, List.nil_append, List.length_cons, List.length_nil, Nat.reduceAdd, Nat.reduceSub, Nat.zero_add, Nat.sub_self, List.replicate_zero, List.replicate_succ, List.getElem?_cons_zero, List.getElem?_cons_succ, List.set_cons_zero, List.set_cons_succ, Option.some.injEq, Dv.Slot.d.injEq, Dv.Slot.own.injEq, Ob.lst.injEq, Ob.dic.injEq, exists_eq_left', exists_eq_left, exists_and_left, List.cons.injEq, and_true, true_and, and_assoc, D.raw.injEq, V.ty.injEq, D.bl.injEq, D.int.injEq, D.str.injEq, D.tup.injEq, D.lst.injEq, Bool.true_eq_false, Bool.false_eq_true, if_true, if_false, ite_true, ite_false, reduceIte, reduceCtorEq, false_or, or_false, itemsD_tup, itemsD_lst, itemsD_dic, exists_const, intP, addP, cmpP]
        by_cases hr2 : 0 < r2
        · rw [decide_eq_true hr2]
          refine (if_pos rfl).mpr ⟨by decide, by simp; omega, by unfold CDivW; decide, hK2 _ _ ⟨ms2 ++ [r2 % 997], r2 / 997, _, by rw [List.map_append]; rfl, by simp; omega⟩⟩
        · rw [decide_eq_false hr2]
          exact (if_neg Bool.false_ne_true).mpr (hK2 _ _ ⟨ms2, r2, _, rfl, by simp; omega⟩)
      · rintro ρ s ⟨ms2, r2, x7, rfl, hl2⟩
        refine hK _ _ ⟨ms2, m2, _, _, _, _, rfl, hm3, hm4, ?_⟩
        simp at hl2 ⊢
        omega
    · rw [decide_eq_false hc]
      refine (if_neg Bool.false_ne_true).mpr ⟨by decide, by simp; omega, hmul _ _ hm3 hm4 (by decide), by decide, by decide, by simp; omega, by decide, by decide, ?_⟩
      refine for_mapg (pre := []) (fun ts ρ _ => ∃ (ms2 : List Int) (r2 : Int) (x7 : Slot), ρ = [.d (.lst (ns.map .int)), .d (.int 600), .own (.lst (ms2.map .int)), .d (.int m2), .d (.int (0 + (k : Nat))), .d (.int cell), .d (.int r2), x7] ∧ ms2.length ≤ 62 * qs.length + 2 + ts.length) ⟨ms ++ [cell % 997] ++ [(m2 * 69621 + 5) % 65521 % 997], 0, _, by rw [List.map_append, List.map_append]; rfl, by simp; omega⟩ ?_ ?_
      · rintro ts t0 rest2 er2 ρ s ⟨ms2, r2, x7, rfl, hl2⟩ K2 hK2
        have hts : ts.length < 60 := by
          have := congrArg List.length er2
          simp at this
          omega
        simp only [dRet, dRetN, dSeq, dIfS, dSet, dPar, dAug, dFor, dDrop, dDropM, dSetM, dSetF, fLst, fItems, mBm, dNewD, dPutO, dNext, dBreak, dCont, dAndV, dOrV, dNotV, dAnd, dOr, dNot, dB, dIf, dTup, dLst, dOp, dUn, dCallP, dCall, lfP, dCons, dNil, dVar, dC, dChain, dOpO, dCallO, dItems, dEnum, dRange1, dRange2, dLc, dLc2, dNoPart, dPart, dSl, dTru, gtName, gtTup, gtCons, gtNil, dYes, dGet, dGetO, dRevT, dRevL, lcBody, lcOut, lcIn, wipeD, List.map_cons, List.map_nil, List.cons_append, List.nil_append, List.length_cons, List.length_nil, Nat.reduceAdd, Nat.reduceSub, Nat.zero_add, Nat.sub_self, List.replicate_zero, List.replicate_succ, List.getElem?_cons_zero, List.getElem?_cons_succ, List.set_cons_zero, List.set_cons_succ, Option.some.injEq, Dv.Slot.d.injEq, Dv.Slot.own.injEq, Ob.lst.injEq, Ob.dic.injEq, exists_eq_left', exists_eq_left, exists_and_left, List.cons.injEq, and_true, true_and, and_assoc, D.raw.injEq, V.ty.injEq, D.bl.injEq, D.int.injEq, D.str.injEq, D.tup.injEq, D.lst.injEq, Bool.true_eq_false, Bool.false_eq_true, if_true, if_false, ite_true, ite_false, reduceIte, reduceCtorEq, false_or, or_false, itemsD_tup, itemsD_lst, itemsD_dic, exists_const, intP, addP, cmpP]
        by_cases hr2 : 0 < r2
        · rw [decide_eq_true hr2]
          refine (if_pos rfl).mpr ⟨by decide, by simp; omega, by unfold CDivW; decide, hK2 _ _ ⟨ms2 ++ [r2 % 997], r2 / 997, _, by rw [List.map_append]; rfl, by simp; omega⟩⟩
        · rw [decide_eq_false hr2]
          exact (if_neg Bool.false_ne_true).mpr (hK2 _ _ ⟨ms2, r2, _, rfl, by simp; omega⟩)
      · rintro ρ s ⟨ms2, r2, x7, rfl, hl2⟩
        refine hK _ _ ⟨ms2, m2, _, _, _, _, rfl, hm3, hm4, ?_⟩
        simp at hl2 ⊢
        omega
  · rintro ρ s ⟨ms, m, x4, x5, x6, x7, rfl, hm1, hm2, hms⟩
    rw [List.nil_append, List.length_range] at hms
    simp only [dRet, dRetN, dSeq, dIfS, dSet, dPar, dAug, dFor, dDrop, dDropM, dSetM, dSetF, fLst, fItems, mBm, dNewD, dPutO, dNext, dBreak, dCont, dAndV, dOrV, dNotV, dAnd, dOr, dNot, dB, dIf, dTup, dLst, dOp, dUn, dCallP, dCall, lfP, dCons, dNil, dVar, dC, dChain, dOpO, dCallO, dItems, dEnum, dRange1, dRange2, dLc, dLc2, dNoPart, dPart, dSl, dTru, gtName, gtTup, gtCons, gtNil, dYes, dGet, dGetO, dRevT, dRevL, lcBody, lcOut, lcIn, wipeD, List.map_cons, List.map_nil, List.cons_append, List.nil_append, List.length_cons, List.length_nil, Nat.reduceAdd, Nat.reduceSub, Nat.zero_add, Nat.sub_self, List.replicate_zero, List.replicate_succ, List.getElem?_cons_zero, List.getElem?_cons_succ, List.set_cons_zero, List.set_cons_succ, Option.some.injEq, Dv.Slot.d.injEq, Dv.Slot.own.injEq, Ob.lst.injEq, Ob.dic.injEq, exists_eq_left', exists_eq_left, exists_and_left, List.cons.injEq, and_true, true_and, and_assoc, D.raw.injEq, V.ty.injEq, D.bl.injEq, D.int.injEq, D.str.injEq, D.tup.injEq, D.lst.injEq, Bool.true_eq_false, Bool.false_eq_true, if_true, if_false, ite_true, ite_false, reduceIte, reduceCtorEq, false_or, or_false, itemsD_tup, itemsD_lst, itemsD_dic, exists_const, intP, addP, cmpP]
    refine ⟨by decide, by decide, ?_⟩
    rw [rangeD_map]
    refine for_mapg (pre := []) (fun qs ρ _ => ∃ (ms : List Int) (m : Int) (x4 x5 x6 x7 : Slot), ρ = [.d (.lst (ns.map .int)), .d (.int 600), .own (.lst (ms.map .int)), .d (.int m), x4, x5, x6, x7] ∧ 0 ≤ m ∧ m < 65537 ∧ ms.length ≤ 4000 + qs.length) ⟨ms, m, _, _, _, _, rfl, hm1, hm2, by simp; omega⟩ ?_ ?_
    · rintro qs k rest er ρ s ⟨ms, m, x4, x5, x6, x7, rfl, hm1, hm2, hms⟩ K hK
      have hqs : qs.length < 600 := by
        have := congrArg List.length er
        simp at this
        omega
      simp only [dRet, dRetN, dSeq, dIfS, dSet, dPar, dAug, dFor, dDrop, dDropM, dSetM, dSetF, fLst, fItems, mBm, dNewD, dPutO, dNext, dBreak, dCont, dAndV, dOrV, dNotV, dAnd, dOr, dNot, dB, dIf, dTup, dLst, dOp, dUn, dCallP, dCall, lfP, dCons, dNil, dVar, dC, dChain, dOpO, dCallO, dItems, dEnum, dRange1, dRange2, dLc, dLc2, dNoPart, dPart, dSl, dTru, gtName, gtTup, gtCons, gtNil, dYes, dGet, dGetO, dRevT, dRevL, lcBody, lcOut, lcIn, wipeD, List.map_cons, List.map_nil, List.cons_append, List.nil_append, List.length_cons, List.length_nil, Nat.reduceAdd, Nat.reduceSub, Nat.zero_add, Nat.sub_self, List.replicate_zero, List.replicate_succ, List.getElem?_cons_zero, List.getElem?_cons_succ, List.set_cons_zero, List.set_cons_succ, Option.some.injEq, Dv.Slot.d.injEq, Dv.Slot.own.injEq, Ob.lst.injEq, Ob.dic.injEq, exists_eq_left', exists_eq_left, exists_and_left, List.cons.injEq, and_true, true_and, and_assoc, D.raw.injEq, V.ty.injEq, D.bl.injEq, D.int.injEq, D.str.injEq, D.tup.injEq, D.lst.injEq, Bool.true_eq_false, Bool.false_eq_true, if_true, if_false, ite_true, ite_false, reduceIte, reduceCtorEq, false_or, or_false, itemsD_tup, itemsD_lst, itemsD_dic, exists_const, intP, addP, cmpP]
      refine ⟨hmul _ _ hm1 hm2 (by decide), by decide, by decide, by simp; omega, hK _ _ ⟨ms ++ [_], _, _, _, _, _, by rw [List.map_append]; rfl, Int.emod_nonneg _ (by decide), Int.emod_lt_of_pos _ (by decide), by simp; omega⟩⟩
    · rintro ρ s ⟨ms, m, x4, x5, x6, x7, rfl, hm1, hm2, hms⟩
      refine .inl ⟨_, rfl, ?_⟩
      refine ⟨_, rfl, _, rfl, 600, rfl, _, rfl, ?_⟩
      have e : cutD (ms.map D.int) none (some 600) = (cutI ms none (some 600)).map D.int := by
        unfold cutD cutI
        rw [← List.map_drop, ← List.map_take, List.length_map]
      show R (.lst (cutD (ms.map D.int) none (some 600)))
      rw [e]
      exact h _

theorem ok__law_next (T : Bn mg) (Df : Def K mg "_law_next" s__law_next ["w", "many"]) : Cal P w K mg base "_law_next" 1 ["w", "many"] (spD ⟨P, w, K⟩ (Wd K) 2 o_next) := by
  have S := sc__law_next
  refine Df.cal fun f fd F => F.ok S (fun vs H Q E h => ?_) (fun cdv A outer s H vs Q E hr h => ?_)
  · obtain ⟨Hs, s, ds, R, _, _, ra, hl, _⟩ := h
    rw [ra.length, hl]
    rfl
  · obtain ⟨Hs, s0, ds, R, hrel, hsub, ra, hl, ⟨p, n, rfl, rfl, hn, hR⟩, k⟩ := h
    have hu : (cxOf CX0 P w K mg base ["w", "many"] "_law_next" (defScope s__law_next) f cdv A outer s H E).nox.A.units + 1 < cLine := by
      have := hr.un
      show (A.deeper _).units + 1 < cLine
      omega
    refine ⟨_, pss_cons (ps_daug hu (pv 0) pe_str pe_int in_add (by intros; rfl))
      (pss_cons (ps_if (pt_cmpR op_gt (pe_dget hu (pv 0) pe_str (fun _ _ => rfl)) (pe_callB call_len rfl T.b_len rfl (pa_cons (pe_dget hu (pv 0) pe_str (fun _ _ => rfl)) pa_nil)) (nomark _)) (pss_one (ps_ret pe_int)) pss_nil)
      (pss_one (ps_ret (pe_op op_mod (pe_callTy call_int1 rfl T.b_int rfl (pa_cons (pe_ix ix_seq (pe_dget hu (pv 0) pe_str (fun _ _ => rfl)) (pe_op op_sub (pe_dget hu (pv 0) pe_str (fun _ _ => rfl)) pe_int) (fun _ _ => rfl)) pa_nil)) (pv 1))))), ?_⟩
    have ev : vs = [.ref p, .int n] := by
      cases ra with
      | cons r1 ra =>
        cases ra with
        | cons r2 ra =>
          cases ra
          cases r1
          cases r2
          rfl
    subst ev
    obtain ⟨hp0, L, i, ns, hp, hL, hi⟩ := hrel p rfl
    have gp : Go (Wd K) (some p) Hs H (some p) Hs (upd H p (.dK (wKvs L (i + 1)))) := wd_step (c := ⟨P, w, K⟩) hrel hsub hp hL hi
    have d1 : DGet H p (.str "at") (some (.int i)) := by
      have := DGet.k (k := kAt) hp
      rwa [w_at] at this
    have d2 : DPut H p (.str "at") (.int (i + 1)) (upd H p (.dK (wKvs L (i + 1)))) := by
      have := DPut.k (k := kAt) (v := .int (i + 1)) hp (show (2 : Nat) < sizeLine by decide)
      rwa [w_put] at this
    have d3 : DGet (upd H p (.dK (wKvs L (i + 1)))) p (.str "at") (some (.int (i + 1))) := by
      have := DGet.k (k := kAt) (upd_same (H := H) (a := p) (o := .dK (wKvs L (i + 1))))
      rwa [w_at] at this
    have d4 : DGet (upd H p (.dK (wKvs L (i + 1)))) p (.str "draws") (some (.ref L)) := by
      have := DGet.k (k := kDraws) (upd_same (H := H) (a := p) (o := .dK (wKvs L (i + 1))))
      rwa [w_draws] at this
    have hL1 : SqL K (upd H p (.dK (wKvs L (i + 1)))) L (ns.map V.int) := gp.sub.seq hL
    refine ⟨.ref p, rfl, p, .int i, rfl, d1, i, 1, rfl, rfl, _, d2, ?_⟩
    refine ⟨.ref p, rfl, p, .int (i + 1), rfl, d3, .ref p, rfl, p, .ref L, rfl, d4, .ref L, ns.length, rfl, .inl ⟨ns.map V.int, hL1, by simp⟩, i + 1, ns.length, rfl, rfl, _, rfl, ?_⟩
    by_cases hc : (ns.length : Int) < i + 1
    · rw [decide_eq_true hc]
      exact k _ _ _ _ _ (hR 0 (by decide) hn) gp (.int 0)
    · rw [decide_eq_false hc]
      have hj : i.toNat < ns.length := by omega
      have ei : i + 1 - 1 = ((i.toNat : Nat) : Int) := by omega
      refine ⟨.ref p, rfl, p, .ref L, rfl, d4, .ref p, rfl, p, .int (i + 1), rfl, d3, i + 1, 1, rfl, rfl, ?_⟩
      refine .inl ⟨L, ns.map V.int, _, .int ns[i.toNat], rfl, rfl, hL1, ?_, ?_⟩
      · rw [ei]
        refine L2.atI_nat ?_
        rw [List.getElem?_map, List.getElem?_eq_getElem hj]
        rfl
      · refine .inl ⟨ns[i.toNat], rfl, .int n, rfl, ns[i.toNat], n, rfl, rfl, hn, ?_⟩
        exact k _ _ _ _ _ (hR _ (Int.emod_nonneg _ (by omega)) (Int.emod_lt_of_pos _ hn)) gp (.int _)

theorem ok__law_pick (T : Bn mg) (Df : Def K mg "_law_pick" s__law_pick ["w", "rows"])  (C__law_next : Cal P w K mg base "_law_next" 1 ["w", "many"] (spD ⟨P, w, K⟩ (Wd K) 2 o_next)) : Cal P w K mg base "_law_pick" 2 ["w", "rows"] (spD ⟨P, w, K⟩ (Wd K) 2 o_pick) := by
  have S := sc__law_pick
  refine Df.okW S rfl fun f cdv A outer s H E B hr => ?_
  refine ⟨_, (dss_one (ds_ret (de_ix xd_seq (dv 1) (de_fn C__law_next (hr.mono (by decide)) rfl (da_cons (dv 0) (da_cons (de_callB cd_len rfl T.b_len rfl (da_cons (dv 1) da_nil)) da_nil)))))), ?_⟩
  rintro ds s R hl ⟨p, xs, rfl, rfl, hne, h⟩
  simp only [dRet, dRetN, dSeq, dIfS, dSet, dPar, dAug, dFor, dDrop, dDropM, dSetM, dSetF, fLst, fItems, mBm, dNewD, dPutO, dNext, dBreak, dCont, dAndV, dOrV, dNotV, dAnd, dOr, dNot, dB, dIf, dTup, dLst, dOp, dUn, dCallP, dCall, lfP, dCons, dNil, dVar, dC, dChain, dOpO, dCallO, dItems, dEnum, dRange1, dRange2, dLc, dLc2, dNoPart, dPart, dSl, dTru, gtName, gtTup, gtCons, gtNil, dYes, dGet, dGetO, dRevT, dRevL, lcBody, lcOut, lcIn, wipeD, List.map_cons, List.map_nil, List.cons_append, List.nil_append, List.length_cons, List.length_nil, Nat.reduceAdd, Nat.reduceSub, Nat.zero_add, Nat.sub_self, List.replicate_zero, List.replicate_succ, List.getElem?_cons_zero, List.getElem?_cons_succ, List.set_cons_zero, List.set_cons_succ, Option.some.injEq, Dv.Slot.d.injEq, Dv.Slot.own.injEq, Ob.lst.injEq, Ob.dic.injEq, exists_eq_left', exists_eq_left, exists_and_left, List.cons.injEq, and_true, true_and, and_assoc, D.raw.injEq, V.ty.injEq, D.bl.injEq, D.int.injEq, D.str.injEq, D.tup.injEq, D.lst.injEq, Bool.true_eq_false, Bool.false_eq_true, if_true, if_false, ite_true, ite_false, reduceIte, reduceCtorEq, false_or, or_false, itemsD_tup, itemsD_lst, itemsD_dic, exists_const]
  refine ⟨xs.length, rfl, fun hz => ⟨p, _, rfl, rfl, ?_, fun r h0 h1 => ?_⟩⟩
  · cases xs with
    | nil => exact absurd rfl hne
    | cons x xs => simp
  · obtain ⟨j, rfl⟩ : ∃ j : Nat, r = j := ⟨r.toNat, by omega⟩
    have hj : j < xs.length := by omega
    exact ⟨_, rfl, xs[j], (L2.atI_nat (List.getElem?_eq_getElem hj) : atI xs _ = _), h _ (List.getElem_mem hj)⟩

def o__law_line : OkA := fun ds s R => ∃ p, ds = [.raw (.ref p)] ∧ s = some p ∧ ∀ l : List Nat, l.length ≤ 3 → R (lineD l) (some p)
theorem ok__law_line (T : Bn mg) (Df : Def K mg "_law_line" s__law_line ["w"])  (C__law_next : Cal P w K mg base "_law_next" 1 ["w", "many"] (spD ⟨P, w, K⟩ (Wd K) 2 o_next)) : Cal P w K mg base "_law_line" 2 ["w"] (spD ⟨P, w, K⟩ (Wd K) 1 o__law_line) := by
  have S := sc__law_line
  refine Df.okW S rfl fun f cdv A outer s H E B hr => ?_
  refine ⟨_, (dss_one (ds_ret (de_callTy cd_tuple rfl T.b_tuple rfl (da_cons (de_lc (own := [("k", 1)]) rfl S.nd (di_range1 rfl T.b_range (da_cons (de_fn C__law_next (hr.mono (by decide)) rfl (da_cons (dv 0) (da_cons de_int da_nil))) da_nil)) (blkOk_by (by rfl)) (fun s H C cl fp => (dg_name (i := 1) S.nd rfl (by first | exact .inl rfl | exact .inr rfl))) (fun s H C cl fp => dts_nil) (fun s H C cl fp => (de_fn C__law_next (hr.mono (by decide)) rfl (da_cons (dv 0) (da_cons de_int da_nil))))) da_nil)))), ?_⟩
  rintro ds s R hl ⟨p, rfl, rfl, h⟩
  have hzl := sizeLine_eq
  simp only [dWhile, dParDF, dParFD, dPar3, dMetS, dCallX, dRaise, dInDO, dIxDO, dLstRg, dTupRg, dCallHX, dRet, dRetN, dSeq, dIfS, dSet, dPar, dAug, dFor, dDrop, dDropM, dSetM, dSetF, fLst, fItems, mBm, dNewD, dPutO, dNext, dBreak, dCont, dAndV, dOrV, dNotV, dAnd, dOr, dNot, dB, dIf, dTup, dLst, dOp, dUn, dCallP, dCall, lfP, dCons, dNil, dVar, dC, dChain, dOpO, dCallO, dItems, dEnum, dRange1, dRange2, dLc, dLc2, dNoPart, dPart, dSl, dTru, gtName, gtTup, gtCons, gtNil, dYes, dGet, dGetO, dRevT, dRevL, lcBody, lcOut, lcIn, wipeD, List.map_cons, List.map_nil, List.cons_append, List.nil_append, List.length_cons, List.length_nil, Nat.reduceAdd, Nat.reduceSub, Nat.zero_add, Nat.sub_self, List.replicate_zero, List.replicate_succ, List.getElem?_cons_zero, List.getElem?_cons_succ, List.set_cons_zero, List.set_cons_succ, Option.some.injEq, Dv.Slot.d.injEq, Dv.Slot.own.injEq, Ob.lst.injEq, Ob.dic.injEq, exists_eq_left', exists_eq_left, exists_and_left, List.cons.injEq, and_true, true_and, and_assoc, D.raw.injEq, V.ty.injEq, D.bl.injEq, D.int.injEq, D.str.injEq, D.tup.injEq, D.lst.injEq, Bool.true_eq_false, Bool.false_eq_true, if_true, if_false, ite_true, ite_false, reduceIte, reduceCtorEq, false_or, or_false, itemsD_tup, itemsD_lst, itemsD_dic, exists_const, addP_int, addP_str, addP_tup, addP_lst, cmpP_int, intP_int, slD_tup, slD_lst, lenD_tup, lenD_lst, lenD_str]
  refine ⟨p, 4, rfl, rfl, by decide, fun r h0 h1 => ⟨r, rfl, by omega, by omega, ?_⟩⟩
  obtain ⟨m, rfl⟩ : ∃ m : Nat, r = m := ⟨r.toNat, by omega⟩
  have hm : ((m : Nat) : Int).toNat = m := rfl
  rw [rangeD_map, hm]
  refine ⟨by rw [List.length_map, List.length_range]; omega, lc_any (fun b : Nat => D.int b) (fun _ => True) (fun j hj K1 hK1 => ?_) fun ys hys _ => ?_⟩
  · simp only [dWhile, dParDF, dParFD, dPar3, dMetS, dCallX, dRaise, dInDO, dIxDO, dLstRg, dTupRg, dCallHX, dRet, dRetN, dSeq, dIfS, dSet, dPar, dAug, dFor, dDrop, dDropM, dSetM, dSetF, fLst, fItems, mBm, dNewD, dPutO, dNext, dBreak, dCont, dAndV, dOrV, dNotV, dAnd, dOr, dNot, dB, dIf, dTup, dLst, dOp, dUn, dCallP, dCall, lfP, dCons, dNil, dVar, dC, dChain, dOpO, dCallO, dItems, dEnum, dRange1, dRange2, dLc, dLc2, dNoPart, dPart, dSl, dTru, gtName, gtTup, gtCons, gtNil, dYes, dGet, dGetO, dRevT, dRevL, lcBody, lcOut, lcIn, wipeD, List.map_cons, List.map_nil, List.cons_append, List.nil_append, List.length_cons, List.length_nil, Nat.reduceAdd, Nat.reduceSub, Nat.zero_add, Nat.sub_self, List.replicate_zero, List.replicate_succ, List.getElem?_cons_zero, List.getElem?_cons_succ, List.set_cons_zero, List.set_cons_succ, Option.some.injEq, Dv.Slot.d.injEq, Dv.Slot.own.injEq, Ob.lst.injEq, Ob.dic.injEq, exists_eq_left', exists_eq_left, exists_and_left, List.cons.injEq, and_true, true_and, and_assoc, D.raw.injEq, V.ty.injEq, D.bl.injEq, D.int.injEq, D.str.injEq, D.tup.injEq, D.lst.injEq, Bool.true_eq_false, Bool.false_eq_true, if_true, if_false, ite_true, ite_false, reduceIte, reduceCtorEq, false_or, or_false, itemsD_tup, itemsD_lst, itemsD_dic, exists_const, addP_int, addP_str, addP_tup, addP_lst, cmpP_int, intP_int, slD_tup, slD_lst, lenD_tup, lenD_lst, lenD_str]
    refine ⟨p, 256, rfl, rfl, by decide, fun r h0 h1 => ?_⟩
    obtain ⟨b, rfl⟩ : ∃ b : Nat, r = b := ⟨r.toNat, by omega⟩
    exact hK1 b trivial
  · rw [List.nil_append]
    rw [List.length_range] at hys
    exact h ys (by omega)

end
end K15

set_option Elab.async false
set_option linter.all false
set_option maxRecDepth 100000
set_option maxHeartbeats 2000000
namespace K15
open PySem L2 Dv Bg
/-- a disk is what the law makes of deeds -/
def o_isd (CDisk : Addr) : OkC := fun ds s R => ∃ (A : Bg.DA) (d : D) (dl : List Deed), ds = [.raw (.ref A.a), d] ∧ DiskAt CDisk s A dl ∧ DeedsAt s d dl ∧ okL dl ∧ dl.length < 64 ∧ ∀ s', Kp s s' → R (.bl true) s'
theorem sm_ints (ys : List Int) : smOk 6 (.tup (ys.map .int)) = true := by
  rw [smOk, List.all_eq_true]
  intro x hx
  obtain ⟨i, _, rfl⟩ := List.mem_map.mp hx
  rfl
theorem sm_line (l : List Nat) : smOk 6 (lineD l) = true := by
  rw [lineD, smOk, List.all_eq_true]
  intro x hx
  obtain ⟨i, _, rfl⟩ := List.mem_map.mp hx
  rfl
theorem shp_line (l : List Nat) : shp 8 (lineD l) = true := shp_le (smOk_shp (sm_line l)) (by decide)
theorem eq_line (l : List Nat) : eqD (lineD l) (lineD l) = true := smOk_eq (sm_line l)
theorem roots_at (dl : List Deed) (i : Nat) (h : (stD dl).roots.length = 2) (hi : i < 2) : atI ((stD dl).roots.map lineD) (i : Nat) = some (lineD ((stD dl).roots[i]?.getD [])) := by
  have hx : (stD dl).roots[i]? = some (stD dl).roots[i] := List.getElem?_eq_getElem (by omega)
  refine L2.atI_nat ?_
  rw [List.getElem?_map, hx]
  rfl
theorem shp_rd (dl : List Deed) (q : Int) : shp 8 (rdD dl q) = true := by
  unfold rdD
  split
  · exact shp_line _
  · decide +kernel
theorem eq_rd (dl : List Deed) (q : Int) : eqD (rdD dl q) (rdD dl q) = true := by
  unfold rdD
  split
  · exact eq_line _
  · decide +kernel
theorem rd_val (dl : List Deed) (q : Int) : (valD ((stD dl).pages.map pk) (.inl q)).getD (.str "bad") = rdD dl q := by
  rw [valD_pk, rdD]
  cases getP (stD dl).pages q <;> rfl
section
variable {P : Program} {w : World} {K : PySem.W.Frag} {mg : Str → Option Value} {base : Heap}
theorem ok_isd {CDisk : Addr} (T : Bn mg) (F_Disk : ClF K CDisk fs_Disk) (Df : Def K mg "_law_is_disk" s__law_is_disk ["disk", "deeds"]) (M_Disk_pages : Mth P w K mg base CX0 CDisk "pages" 1 ["self"] (spD ⟨P, w, K⟩ (Wc ⟨P, w, K⟩) 1 (o_disk CDisk [] fun dl Q => dl.length < 64 ∧ ∀ ys : List Int, ys.Perm ((stD dl).pages.map (·.1)) → ys.Pairwise (· ≤ ·) → Q (.tup (ys.map .int))))) (M_Disk_log : Mth P w K mg base CX0 CDisk "log" 1 ["self"] (spD ⟨P, w, K⟩ (Wc ⟨P, w, K⟩) 1 (o_disk CDisk [] fun dl Q => Q (lineD (stD dl).log)))) (M_Disk_root : Mth P w K mg base CX0 CDisk "root" 1 ["self", "slot"] (spD ⟨P, w, K⟩ (Wc ⟨P, w, K⟩) 2 (fun ds s R => ∃ i : Nat, i < 2 ∧ o_disk CDisk [.int (i : Nat)] (fun dl Q => Q (lineD ((stD dl).roots[i]?.getD []))) ds s R))) (C__law_same : Cal P w K mg base "_law_same" 7 ["seen", "due"] (spP ⟨P, w, K⟩ 2 o__law_same)) (C_done : Cal P w K mg base "_law_done" 1 ["deeds"] (spD ⟨P, w, K⟩ (Wc ⟨P, w, K⟩) 1 o_done)) (C_read : Cal P w K mg base "_law_read" 2 ["disk", "page"] (spD ⟨P, w, K⟩ (Wc ⟨P, w, K⟩) 2 (o_readL CDisk))) : Cal P w K mg base "_law_is_disk" 8 ["disk", "deeds"] (spD ⟨P, w, K⟩ (Wc ⟨P, w, K⟩) 2 (o_isd CDisk)) := by
  have S := sc__law_is_disk
  refine Df.okW S rfl fun f cdv A outer s H E B hr => ?_
  refine ⟨_, (dss_cons (ds_asg (de_fn C_done (hr.mono (by decide)) rfl (da_cons (dv 1) da_nil)) (dg_tup (n := 3) rfl (dgs_cons (dg_name (i := 2) S.nd rfl (by first | exact .inl rfl | exact .inr rfl)) (dgs_cons (dg_name (i := 3) S.nd rfl (by first | exact .inl rfl | exact .inr rfl)) (dgs_cons (dg_name (i := 4) S.nd rfl (by first | exact .inl rfl | exact .inr rfl)) dgs_nil))))) (dss_cons (ds_if (dw_pt (dw_or (dt_not (dt_val (de_fnP C__law_same (hr.mono (by decide)) rfl (da_cons (de_meth0 (Sub.self ⟨P, w, K⟩) F_Disk M_Disk_pages (hr.mono (by decide)) (dv 0)) (da_cons (de_callTy cd_tuple rfl T.b_tuple rfl (da_cons (de_sortedDC (Sub.self ⟨P, w, K⟩) rfl rfl T.b_sorted (dv 2)) da_nil)) da_nil))))) (dw_or (dt_not (dt_val (de_fnP C__law_same (hr.mono (by decide)) rfl (da_cons (de_meth0 (Sub.self ⟨P, w, K⟩) F_Disk M_Disk_log (hr.mono (by decide)) (dv 0)) (da_cons (dv 3) da_nil))))) (dw_or (dt_cmp (od_ne hr.units 8) (de_meth (Sub.self ⟨P, w, K⟩) F_Disk M_Disk_root (hr.mono (by decide)) (dv 0) (da_cons de_int da_nil)) (de_ixC (Sub.self ⟨P, w, K⟩) (dv 4) de_int)) (dw_or1 (dt_cmp (od_ne hr.units 8) (de_meth (Sub.self ⟨P, w, K⟩) F_Disk M_Disk_root (hr.mono (by decide)) (dv 0) (da_cons de_int da_nil)) (de_ixC (Sub.self ⟨P, w, K⟩) (dv 4) de_int))))))) (dss_one (ds_ret de_bl)) dss_nil) (dss_one (ds_ret (de_cmp (od_eq hr.units 8) (de_lc (own := [("page", 5)]) rfl S.nd (di_range1 rfl T.b_range (da_cons de_int da_nil)) (blkOk_by (by rfl)) (fun s H C cl fp => (dg_name (i := 5) S.nd rfl (by first | exact .inl rfl | exact .inr rfl))) (fun s H C cl fp => (dts_one (dt_cmp (od_ne hr.units 8) (de_fn C_read (hr.mono (by decide)) rfl (da_cons (dv 0) (da_cons (dv 5) da_nil))) (de_dget2B (Sub.self ⟨P, w, K⟩) hr.u1 (dv 2) (dv 5) de_str)))) (fun s H C cl fp => (dv 5))) (de_lst da_nil)))))), ?_⟩
  rintro ds s R hl ⟨A, d, dl, rfl, hA, hd, hb, h64, h⟩
  have hzl := sizeLine_eq
  simp only [dWhile, dParDF, dParFD, dPar3, dMetS, dCallX, dRaise, dInDO, dIxDO, dLstRg, dTupRg, dCallHX, dRet, dRetN, dSeq, dIfS, dSet, dPar, dAug, dFor, dDrop, dDropM, dSetM, dSetF, fLst, fItems, mBm, dNewD, dPutO, dNext, dBreak, dCont, dAndV, dOrV, dNotV, dAnd, dOr, dNot, dB, dIf, dTup, dLst, dOp, dUn, dCallP, dCall, lfP, dCons, dNil, dVar, dC, dChain, dOpO, dCallO, dItems, dEnum, dRange1, dRange2, dLc, dLc2, dNoPart, dPart, dSl, dTru, gtName, gtTup, gtCons, gtNil, dYes, dGet, dGetO, dRevT, dRevL, lcBody, lcOut, lcIn, wipeD, dFld, dSetFld, dAugFld, dMeth, dMethX, dMake, dNewDc, dNewLc, dBmC, dOpC, dCallC, dSeqC, dIxC, dDGet, dDPut, dDDel, dDIn, dDGet2, dDPop2, dDLen, dDSort, dEqE, dSetIx, dSlC, dDictP, dLock, kAny, kKeys, dForK, dLcK, self_get, self_put, snd_get, snd_put, okV, okFst, okVX, List.map_cons, List.map_nil, List.cons_append, List.nil_append, List.length_cons, List.length_nil, Nat.reduceAdd, Nat.reduceSub, Nat.zero_add, Nat.sub_self, List.replicate_zero, List.replicate_succ, List.getElem?_cons_zero, List.getElem?_cons_succ, List.set_cons_zero, List.set_cons_succ, Option.some.injEq, Dv.Slot.d.injEq, Dv.Slot.own.injEq, Ob.lst.injEq, Ob.dic.injEq, exists_eq_left', exists_eq_left, exists_and_left, List.cons.injEq, and_true, true_and, and_assoc, D.raw.injEq, V.ty.injEq, D.bl.injEq, D.int.injEq, D.str.injEq, D.tup.injEq, D.lst.injEq, Bool.true_eq_false, Bool.false_eq_true, if_true, if_false, ite_true, ite_false, reduceIte, reduceCtorEq, false_or, or_false, itemsD_tup, itemsD_lst, itemsD_dic, exists_const, addP_int, addP_str, addP_tup, addP_lst, cmpP_int, intP_int, slD_tup, slD_lst, lenD_tup, lenD_lst, lenD_str]
  obtain ⟨hs1, hs2, hs3, hs4⟩ := st_facts dl hb.2
  have hb3 := hb.1
  refine ⟨d, dl, rfl, hd, hb, fun p r s1 hp hr1 ep er kk => ⟨_, rfl, rfl, _, _, rfl, _, _, rfl, _, _, rfl, rfl, A.a, rfl, _, kk.at hA.o, rfl, A, dl, rfl, hA.kp kk, hb, h64, fun ys hy1 hy2 => ⟨p, rfl, _, ep, _, pk_keys _, by rw [List.length_map]; omega, fun zs hz1 hz2 => ?_⟩⟩⟩
  have ez : zs = ys := (hz1.trans hy1.symm).eq_of_pairwise (fun a b _ _ h1 h2 => by omega) hz2 hy2
  subst ez
  refine ⟨_, rfl, sm_ints _, true, rfl, (if_neg (by decide)).mpr ?_⟩
  refine ⟨A.a, rfl, _, kk.at hA.o, rfl, A, dl, rfl, hA.kp kk, hb, _, rfl, sm_line _, true, rfl, (if_neg (by decide)).mpr ?_⟩
  refine ⟨A.a, rfl, _, kk.at hA.o, rfl, 0, by decide, A, dl, rfl, hA.kp kk, hb, r, rfl, _, er, _, roots_at dl 0 hs3 (by decide), shp_line _, shp_line _, ?_⟩
  rw [eq_line]
  refine (if_neg (by decide)).mpr ⟨A.a, rfl, _, kk.at hA.o, rfl, 1, by decide, A, dl, rfl, hA.kp kk, hb, r, rfl, _, er, _, roots_at dl 1 hs3 (by decide), shp_line _, shp_line _, ?_⟩
  rw [eq_line]
  refine (if_neg (by decide)).mpr ?_
  rw [rangeD_map]
  refine ⟨by decide, by decide, by decide, lc_filter (fun _ => false) (fun _ => .non) (fun j hj K1 hK1 => ?_) ?_⟩
  · simp only [dWhile, dParDF, dParFD, dPar3, dMetS, dCallX, dRaise, dInDO, dIxDO, dLstRg, dTupRg, dCallHX, dRet, dRetN, dSeq, dIfS, dSet, dPar, dAug, dFor, dDrop, dDropM, dSetM, dSetF, fLst, fItems, mBm, dNewD, dPutO, dNext, dBreak, dCont, dAndV, dOrV, dNotV, dAnd, dOr, dNot, dB, dIf, dTup, dLst, dOp, dUn, dCallP, dCall, lfP, dCons, dNil, dVar, dC, dChain, dOpO, dCallO, dItems, dEnum, dRange1, dRange2, dLc, dLc2, dNoPart, dPart, dSl, dTru, gtName, gtTup, gtCons, gtNil, dYes, dGet, dGetO, dRevT, dRevL, lcBody, lcOut, lcIn, wipeD, dFld, dSetFld, dAugFld, dMeth, dMethX, dMake, dNewDc, dNewLc, dBmC, dOpC, dCallC, dSeqC, dIxC, dDGet, dDPut, dDDel, dDIn, dDGet2, dDPop2, dDLen, dDSort, dEqE, dSetIx, dSlC, dDictP, dLock, kAny, kKeys, dForK, dLcK, self_get, self_put, snd_get, snd_put, okV, okFst, okVX, List.map_cons, List.map_nil, List.cons_append, List.nil_append, List.length_cons, List.length_nil, Nat.reduceAdd, Nat.reduceSub, Nat.zero_add, Nat.sub_self, List.replicate_zero, List.replicate_succ, List.getElem?_cons_zero, List.getElem?_cons_succ, List.set_cons_zero, List.set_cons_succ, Option.some.injEq, Dv.Slot.d.injEq, Dv.Slot.own.injEq, Ob.lst.injEq, Ob.dic.injEq, exists_eq_left', exists_eq_left, exists_and_left, List.cons.injEq, and_true, true_and, and_assoc, D.raw.injEq, V.ty.injEq, D.bl.injEq, D.int.injEq, D.str.injEq, D.tup.injEq, D.lst.injEq, Bool.true_eq_false, Bool.false_eq_true, if_true, if_false, ite_true, ite_false, reduceIte, reduceCtorEq, false_or, or_false, itemsD_tup, itemsD_lst, itemsD_dic, exists_const, addP_int, addP_str, addP_tup, addP_lst, cmpP_int, intP_int, slD_tup, slD_lst, lenD_tup, lenD_lst, lenD_str]
    refine ⟨_, A, dl, rfl, hA.kp kk, p, rfl, _, ep, _, rfl, _, ep, _, rfl, .inl _, rfl, ?_⟩
    rw [rd_val]
    refine ⟨shp_rd _ _, shp_rd _ _, ?_⟩
    rw [eq_rd]
    exact hK1
  · have en : (List.range (Int.toNat 6)).filter (fun _ => false) = [] := by simp [List.filter_eq_nil_iff]
    rw [en]
    refine ⟨Nat.zero_le _, by decide, by decide, ?_⟩
    rw [eq_nil]
    exact h _ kk
end
end K15

set_option Elab.async false
set_option linter.all false
set_option maxRecDepth 100000
set_option maxHeartbeats 2000000
namespace K15
open PySem L2 Dv Bg
abbrev s_law : Stmt := top 19
theorem sc_law : FnScope ["script", "w", "turn", "disk", "deeds", "step", "some", "deed", "many", "signs", "done", "frames", "first", "room", "lines", "order", "fresh", "reads", "writes", "kind", "page", "line", "gone", "written", "own"] ["script"] (defScope s_law) := ⟨rfl, rfl, rfl, by decide +kernel, rfl, by decide +kernel, by decide +kernel⟩
def o_fallen (CDisk : Addr) : OkC := fun ds s R => ∃ (dl : List Deed) (many signs : Nat), ds = [.tup (dl.map Deed.d), .int (many : Nat), .int (signs : Nat)] ∧ okL dl ∧ ∀ A s', s A.a = none → s A.l = none → s A.r = none → s A.n = none → DiskAt CDisk s' A (fallL dl many signs) → FrD A s s' → R (.raw (.ref A.a)) s'
theorem sm_line' (n : Nat) (l : List Nat) : smOk (n + 2) (lineD l) = true := by
  rw [lineD, smOk, List.all_eq_true]
  intro x hx
  obtain ⟨i, _, rfl⟩ := List.mem_map.mp hx
  rfl
theorem sm_deed (x : Deed) : smOk 5 x.d = true := by
  have s : ∀ t : Str, PyData.strOk t = true → smOk 4 (.str t) = true := fun t h => h
  cases x with
  | page k l => show ((smOk 4 (.str "page")) && ((smOk 4 (.int k)) && ((smOk 4 (lineD l)) && true))) = true; rw [s _ (by decide +kernel), sm_line' 2 l]; rfl
  | log l => show ((smOk 4 (.str "log")) && ((smOk 4 (lineD l)) && true)) = true; rw [s _ (by decide +kernel), sm_line' 2 l]; rfl
  | root i l => show ((smOk 4 (.str "root")) && ((smOk 4 (.int i)) && ((smOk 4 (lineD l)) && true))) = true; rw [s _ (by decide +kernel), sm_line' 2 l]; rfl
  | free k => show ((smOk 4 (.str "free")) && ((smOk 4 (.tup [.int k])) && true)) = true; rw [s _ (by decide +kernel)]; rfl
  | keep k => show ((smOk 4 (.str "keep")) && ((smOk 4 (.int k)) && true)) = true; rw [s _ (by decide +kernel)]; rfl
theorem fallL_ok {dl : List Deed} (h : okL dl) (m sg : Nat) : okL (fallL dl m sg) ∧ (fallL dl m sg).length ≤ dl.length := by
  have ht : okL (dl.take m) := okL_take h (List.take_append_drop m dl).symm
  unfold fallL
  cases e : dl[m]? with
  | none => rw [List.append_nil]; exact ⟨ht, by rw [List.length_take]; omega⟩
  | some y =>
    have hm : m < dl.length := (List.getElem?_eq_some_iff.mp e).1
    have hy := h.2 y (List.mem_of_getElem? e)
    have hd := h.1
    have hl : (dl.take m).length = m := by rw [List.length_take]; omega
    have one : ∀ z : Deed, z.sm → okL (dl.take m ++ [z]) ∧ (dl.take m ++ [z]).length ≤ dl.length := fun z hz => ⟨okL_add ht (by omega) hz, by rw [List.length_append, hl, List.length_singleton]; omega⟩
    have none_ : okL (dl.take m ++ []) ∧ (dl.take m ++ []).length ≤ dl.length := by rw [List.append_nil]; exact ⟨ht, by omega⟩
    cases y with
    | log l => 
      have hy : l.length ≤ 1000 := hy
      exact one _ (by show (l.take sg).length ≤ 1000; rw [List.length_take]; omega)
    | root i l =>
      show okL (dl.take m ++ if 0 < sg then [Deed.root i [255]] else []) ∧ (dl.take m ++ if 0 < sg then [Deed.root i [255]] else []).length ≤ _
      split
      · exact one _ ⟨by decide, hy.2⟩
      · exact none_
    | page k l => exact none_
    | free k => exact none_
    | keep k => exact none_
theorem or_if {c : Bool} {q : Prop} [Decidable q] {T E : Prop} (h1 : c = true ∨ q → T) (h2 : ¬ c = true → ¬ q → E) : if c = true then T else if decide q = true then T else E := by
  by_cases hc : c = true
  · rw [if_pos hc]
    exact h1 (.inl hc)
  · rw [if_neg hc]
    by_cases h : q
    · rw [if_pos (decide_eq_true h)]; exact h1 (.inr h)
    · rw [if_neg (by rw [decide_eq_false h]; decide)]; exact h2 hc h
theorem ne_self (i : Int) : (!eqD (.int i) (.int i)) = false := by rw [eqD_ints, decide_eq_true rfl]; rfl
theorem shp_tints (xs : List Int) : shp 8 (.tup (xs.map .int)) = true := shp_le (smOk_shp (sm_ints xs)) (by decide)
theorem ne_tints (xs : List Int) : (!eqD (.tup (xs.map .int)) (.tup (xs.map .int))) = false := by rw [smOk_eq (sm_ints xs)]; rfl
theorem sm_deeds (dl : List Deed) : smOk 6 (.tup (dl.map Deed.d)) = true := by
  rw [smOk, List.all_eq_true]
  intro x hx
  obtain ⟨i, _, rfl⟩ := List.mem_map.mp hx
  exact sm_deed i
section
variable {P : Program} {w : World} {K : PySem.W.Frag} {mg : Str → Option Value} {base : Heap}
def o_law : OkD (Wp (Wd K) (Wc ⟨P, w, K⟩)) := fun ds s R => ∃ ns : List Int, ds = [.lst (ns.map .int)] ∧ s.1 = none ∧ ns.length ≤ 63 ∧ ∀ s', R (.bl true) s'
theorem ok_law {CDisk CRoom : Addr} (T : Bn mg) (F_Disk : ClF K CDisk fs_Disk) (F_Room : ClF K CRoom fs_Room) {f : Addr} {fd : FuncData} (F : Fun K "law" "law" s_law f fd) (M_Disk_deeds : Mth P w K mg base CX0 CDisk "deeds" 1 ["self"] (spD ⟨P, w, K⟩ (Wc ⟨P, w, K⟩) 1 (o_disk CDisk [] fun dl Q => Q (.tup (dl.map Deed.d))))) (M_Disk_pages : Mth P w K mg base CX0 CDisk "pages" 1 ["self"] (spD ⟨P, w, K⟩ (Wc ⟨P, w, K⟩) 1 (o_disk CDisk [] fun dl Q => dl.length < 64 ∧ ∀ ys : List Int, ys.Perm ((stD dl).pages.map (·.1)) → ys.Pairwise (· ≤ ·) → Q (.tup (ys.map .int))))) (M_Room_next_page : Mth P w K mg base CX0 CRoom "next_page" 1 ["self"] (spD ⟨P, w, K⟩ (Wc ⟨P, w, K⟩) 1 (o_Room_next_page CDisk CRoom))) (M_Room_held : Mth P w K mg base CX0 CRoom "held" 1 ["self"] (spD ⟨P, w, K⟩ (Wc ⟨P, w, K⟩) 1 (o_Room_held CDisk CRoom))) (M_Room_put : Mth P w K mg base CX0 CRoom "put" 4 ["self", "line"] (spD ⟨P, w, K⟩ (Wc ⟨P, w, K⟩) 2 (o_Room_put CDisk CRoom))) (M_Room_get : Mth P w K mg base CX0 CRoom "get" 4 ["self", "page"] (spD ⟨P, w, K⟩ (Wc ⟨P, w, K⟩) 2 (o_Room_get CDisk CRoom))) (M_Room_flush : Mth P w K mg base CX0 CRoom "flush" 3 ["self"] (spD ⟨P, w, K⟩ (Wc ⟨P, w, K⟩) 1 (o_Room_flush CDisk CRoom))) (K_Disk : Mkr P w K mg base "Disk" CDisk 1 ["self"] (spD ⟨P, w, K⟩ (Wc ⟨P, w, K⟩) 1 (fun ds s R => ∃ a, ds = [.raw (.ref a)] ∧ s a = some (.ins CDisk []) ∧ ∀ A s', A.a = a → s A.l = none → s A.r = none → s A.n = none → DiskAt CDisk s' A [] → FrD A s s' → R .non s'))) (K_Room : Mkr P w K mg base "Room" CRoom 1 ["self", "disk", "frames", "first"] (spD ⟨P, w, K⟩ (Wc ⟨P, w, K⟩) 4 (o_Room_init CDisk CRoom))) (C__law_do : Cal P w K mg base "_law_do" 2 ["disk", "deed"] (spD ⟨P, w, K⟩ (Wc ⟨P, w, K⟩) 2 (o_deed CDisk a_do))) (C__law_is_disk : Cal P w K mg base "_law_is_disk" 8 ["disk", "deeds"] (spD ⟨P, w, K⟩ (Wc ⟨P, w, K⟩) 2 (o_isd CDisk))) (C_fallen : Cal P w K mg base "fallen" 3 ["deeds", "many", "signs"] (spD ⟨P, w, K⟩ (Wc ⟨P, w, K⟩) 3 (o_fallen CDisk))) (C__law_next : Cal P w K mg base "_law_next" 1 ["w", "many"] (spD ⟨P, w, K⟩ (Wd K) 2 o_next)) (C__law_pick : Cal P w K mg base "_law_pick" 2 ["w", "rows"] (spD ⟨P, w, K⟩ (Wd K) 2 o_pick)) (C__law_line : Cal P w K mg base "_law_line" 2 ["w"] (spD ⟨P, w, K⟩ (Wd K) 1 o__law_line)) (C__law_same : Cal P w K mg base "_law_same" 7 ["seen", "due"] (spP ⟨P, w, K⟩ 2 o__law_same)) (C__law_draws : Cal P w K mg base "_law_draws" 1 ["script", "many"] (spP ⟨P, w, K⟩ 2 o__law_draws)) : FnOk P w K mg base CX0 20 f fd ["script"] (spD ⟨P, w, K⟩ (Wp (Wd K) (Wc ⟨P, w, K⟩)) 1 (o_law (P := P) (w := w) (K := K))) := by
  have S := sc_law
  refine okD F S rfl fun cdv A outer s H E B hr => ?_
  refine ⟨_, (dss_cons (ds_enterP (i := 1) S.nd rfl (by first | exact .inl rfl | exact .inr rfl) (de_fnP C__law_draws (hr.mono (by decide)) rfl (da_cons (dv 0) (da_cons de_int da_nil)))) (dss_cons (ds_for PassesOwn.never rfl (di_range1 rfl T.b_range (da_cons de_int da_nil)) (dg_name (i := 2) S.nd rfl (by first | exact .inl rfl | exact .inr rfl)) (dss_cons (ds_par (i := 3) (j := 4) rfl S.nd rfl rfl (by decide) rfl rfl (da_cons (de_make0 (Sub.snd ⟨P, w, K⟩ (Wd K)) (K_Disk.imp fun _ _ _ _ h => spD_sub (U := Sub.snd ⟨P, w, K⟩ (Wd K)) h) (hr.mono (by decide)) rfl) (da_cons (de_newLc (Sub.snd ⟨P, w, K⟩ (Wd K)) da_nil) da_nil))) (dss_cons (ds_for PassesOwn.never rfl (di_range1 rfl T.b_range (da_cons de_int da_nil)) (dg_name (i := 5) S.nd rfl (by first | exact .inl rfl | exact .inr rfl)) (dss_cons (ds_set (i := 6) S.nd rfl (by first | exact .inl rfl | exact .inr rfl) (de_lst (da_cons (de_tup (da_cons de_str (da_cons (de_op od_add de_int (de_fn (C__law_next.imp fun _ _ _ _ h => spD_fst h) (hr.mono (by decide)) rfl (da_cons (dv 1) (da_cons de_int da_nil)))) (da_cons (de_fn (C__law_line.imp fun _ _ _ _ h => spD_fst h) (hr.mono (by decide)) rfl (da_cons (dv 1) da_nil)) da_nil)))) (da_cons (de_tup (da_cons de_str (da_cons (de_fn (C__law_line.imp fun _ _ _ _ h => spD_fst h) (hr.mono (by decide)) rfl (da_cons (dv 1) da_nil)) da_nil))) (da_cons (de_tup (da_cons de_str (da_cons (de_fn (C__law_line.imp fun _ _ _ _ h => spD_fst h) (hr.mono (by decide)) rfl (da_cons (dv 1) da_nil)) da_nil))) da_nil))))) (dss_cons (ds_set (i := 7) S.nd rfl (by first | exact .inl rfl | exact .inr rfl) (de_fn (C__law_pick.imp fun _ _ _ _ h => spD_fst h) (hr.mono (by decide)) rfl (da_cons (dv 1) (da_cons (de_op od_add (dv 6) (de_lst (da_cons (de_tup (da_cons de_str (da_cons (de_fn (C__law_next.imp fun _ _ _ _ h => spD_fst h) (hr.mono (by decide)) rfl (da_cons (dv 1) (da_cons de_int da_nil))) (da_cons (de_fn (C__law_line.imp fun _ _ _ _ h => spD_fst h) (hr.mono (by decide)) rfl (da_cons (dv 1) da_nil)) da_nil)))) (da_cons (de_tup (da_cons de_str (da_cons (de_tup (da_cons (de_op od_add de_int (de_fn (C__law_next.imp fun _ _ _ _ h => spD_fst h) (hr.mono (by decide)) rfl (da_cons (dv 1) (da_cons de_int da_nil)))) da_nil)) da_nil))) (da_cons (de_tup (da_cons de_str (da_cons (de_fn (C__law_next.imp fun _ _ _ _ h => spD_fst h) (hr.mono (by decide)) rfl (da_cons (dv 1) (da_cons de_int da_nil))) da_nil))) da_nil))))) da_nil)))) (dss_cons (ds_expr (de_fn (C__law_do.imp fun _ _ _ _ h => spD_sub (U := Sub.snd ⟨P, w, K⟩ (Wd K)) h) (hr.mono (by decide)) rfl (da_cons (dv 3) (da_cons (dv 7) da_nil)))) (dss_cons (ds_expr (de_bmC (Sub.snd ⟨P, w, K⟩ (Wd K)) PySem.F.slot_list_append PySem.F.type_list_append ow_append (dv 4) (da_cons (dv 7) da_nil))) (dss_one (ds_if (dt_not (dt_val (de_fn (C__law_is_disk.imp fun _ _ _ _ h => spD_sub (U := Sub.snd ⟨P, w, K⟩ (Wd K)) h) (hr.mono (by decide)) rfl (da_cons (dv 3) (da_cons (dv 4) da_nil))))) (dss_one (ds_ret de_bl)) dss_nil))))))) (dss_cons (ds_if (dt_not (dt_val (de_fnP C__law_same (hr.mono (by decide)) rfl (da_cons (de_meth0 (Sub.snd ⟨P, w, K⟩ (Wd K)) F_Disk (M_Disk_deeds.imp fun _ _ _ _ h => spD_sub (U := Sub.snd ⟨P, w, K⟩ (Wd K)) h) (hr.mono (by decide)) (dv 3)) (da_cons (de_tupleC (Sub.snd ⟨P, w, K⟩ (Wd K)) rfl T.b_tuple (dv 4)) da_nil))))) (dss_one (ds_ret de_bl)) dss_nil) (dss_cons (ds_for PassesOwn.never rfl (di_range1 rfl T.b_range (da_cons (de_op od_add (de_callC (Sub.snd ⟨P, w, K⟩ (Wd K)) cd_len rfl T.b_len rfl (dv 4)) de_int) da_nil)) (dg_name (i := 8) S.nd rfl (by first | exact .inl rfl | exact .inr rfl)) (dss_cons (ds_par (i := 9) (j := 10) rfl S.nd rfl rfl (by decide) rfl rfl (da_cons (de_fn (C__law_next.imp fun _ _ _ _ h => spD_fst h) (hr.mono (by decide)) rfl (da_cons (dv 1) (da_cons de_int da_nil))) (da_cons (de_sliceC (Sub.snd ⟨P, w, K⟩ (Wd K)) (dv 4) do_none (do_some (dv 8))) da_nil))) (dss_cons (ds_if (dw_pt (dw_and (dt_cmp (od_lt hr.units) (dv 8) (de_callC (Sub.snd ⟨P, w, K⟩ (Wd K)) cd_len rfl T.b_len rfl (dv 4))) (dw_and1 (dt_cmp (od_eq hr.units 8) (de_ix xd_seq (de_ixC (Sub.snd ⟨P, w, K⟩ (Wd K)) (dv 4) (dv 8)) de_int) de_str)))) (dss_one (ds_set (i := 10) S.nd rfl (by first | exact .inl rfl | exact .inr rfl) (de_op od_add (dv 10) (de_lst (da_cons (de_tup (da_cons de_str (da_cons (de_slice sd_seq (de_ix xd_seq (de_ixC (Sub.snd ⟨P, w, K⟩ (Wd K)) (dv 4) (dv 8)) de_int) do_none (do_some (dv 9))) da_nil))) da_nil))))) dss_nil) (dss_cons (ds_if (dw_pt (dw_and (dt_cmp (od_lt hr.units) (dv 8) (de_callC (Sub.snd ⟨P, w, K⟩ (Wd K)) cd_len rfl T.b_len rfl (dv 4))) (dw_and (dt_cmp (od_eq hr.units 8) (de_ix xd_seq (de_ixC (Sub.snd ⟨P, w, K⟩ (Wd K)) (dv 4) (dv 8)) de_int) de_str) (dw_and1 (dt_cmp (od_gt hr.units) (dv 9) de_int))))) (dss_one (ds_set (i := 10) S.nd rfl (by first | exact .inl rfl | exact .inr rfl) (de_op od_add (dv 10) (de_lst (da_cons (de_tup (da_cons de_str (da_cons (de_ix xd_seq (de_ixC (Sub.snd ⟨P, w, K⟩ (Wd K)) (dv 4) (dv 8)) de_int) (da_cons (de_tup (da_cons de_int da_nil)) da_nil)))) da_nil))))) dss_nil) (dss_one (ds_if (dt_not (dt_val (de_fn (C__law_is_disk.imp fun _ _ _ _ h => spD_sub (U := Sub.snd ⟨P, w, K⟩ (Wd K)) h) (hr.mono (by decide)) rfl (da_cons (de_fn (C_fallen.imp fun _ _ _ _ h => spD_sub (U := Sub.snd ⟨P, w, K⟩ (Wd K)) h) (hr.mono (by decide)) rfl (da_cons (de_tupleC (Sub.snd ⟨P, w, K⟩ (Wd K)) rfl T.b_tuple (dv 4)) (da_cons (dv 8) (da_cons (dv 9) da_nil)))) (da_cons (dv 10) da_nil))))) (dss_one (ds_ret de_bl)) dss_nil)))))) (dss_cons (ds_par3 (i := 11) (j := 3) (l := 12) rfl S.nd rfl rfl rfl (by decide) (by decide) (by decide) rfl rfl rfl (da_cons (de_op od_add de_int (de_fn (C__law_next.imp fun _ _ _ _ h => spD_fst h) (hr.mono (by decide)) rfl (da_cons (dv 1) (da_cons de_int da_nil)))) (da_cons (de_make0 (Sub.snd ⟨P, w, K⟩ (Wd K)) (K_Disk.imp fun _ _ _ _ h => spD_sub (U := Sub.snd ⟨P, w, K⟩ (Wd K)) h) (hr.mono (by decide)) rfl) (da_cons (de_op od_add de_int (de_fn (C__law_next.imp fun _ _ _ _ h => spD_fst h) (hr.mono (by decide)) rfl (da_cons (dv 1) (da_cons de_int da_nil)))) da_nil)))) (dss_cons (ds_asg (de_tup (da_cons (de_make (Sub.snd ⟨P, w, K⟩ (Wd K)) (K_Room.imp fun _ _ _ _ h => spD_sub (U := Sub.snd ⟨P, w, K⟩ (Wd K)) h) (hr.mono (by decide)) rfl (da_cons (dv 3) (da_cons (dv 11) (da_cons (dv 12) da_nil)))) (da_cons (de_newDc (Sub.snd ⟨P, w, K⟩ (Wd K))) (da_cons (de_lst da_nil) (da_cons (de_lst da_nil) (da_cons de_int (da_cons de_int da_nil))))))) (dg_tup (n := 6) rfl (dgs_cons (dg_name (i := 13) S.nd rfl (by first | exact .inl rfl | exact .inr rfl)) (dgs_cons (dg_name (i := 14) S.nd rfl (by first | exact .inl rfl | exact .inr rfl)) (dgs_cons (dg_name (i := 15) S.nd rfl (by first | exact .inl rfl | exact .inr rfl)) (dgs_cons (dg_name (i := 16) S.nd rfl (by first | exact .inl rfl | exact .inr rfl)) (dgs_cons (dg_name (i := 17) S.nd rfl (by first | exact .inl rfl | exact .inr rfl)) (dgs_cons (dg_name (i := 18) S.nd rfl (by first | exact .inl rfl | exact .inr rfl)) dgs_nil)))))))) (dss_one (ds_for PassesOwn.never rfl (di_range1 rfl T.b_range (da_cons de_int da_nil)) (dg_name (i := 5) S.nd rfl (by first | exact .inl rfl | exact .inr rfl)) (dss_cons (ds_set (i := 19) S.nd rfl (by first | exact .inl rfl | exact .inr rfl) (de_fn (C__law_next.imp fun _ _ _ _ h => spD_fst h) (hr.mono (by decide)) rfl (da_cons (dv 1) (da_cons de_int da_nil)))) (dss_cons (ds_if (dw_pt (dw_or (dt_eqEC (Sub.snd ⟨P, w, K⟩ (Wd K)) hr.units0 (dv 14)) (dw_or1 (dt_cmp (od_lt hr.units) (dv 19) de_int)))) (dss_cons (ds_asg (de_tup (da_cons (de_op od_add (dv 12) (de_lenDC (Sub.snd ⟨P, w, K⟩ (Wd K)) rfl T.b_len (dv 14))) (da_cons (de_fn (C__law_line.imp fun _ _ _ _ h => spD_fst h) (hr.mono (by decide)) rfl (da_cons (dv 1) da_nil)) da_nil))) (dg_tup (n := 2) rfl (dgs_cons (dg_name (i := 20) S.nd rfl (by first | exact .inl rfl | exact .inr rfl)) (dgs_cons (dg_name (i := 21) S.nd rfl (by first | exact .inl rfl | exact .inr rfl)) dgs_nil)))) (dss_cons (ds_if (dw_pt (dw_or (dt_cmp (od_ne hr.units 8) (de_meth0 (Sub.snd ⟨P, w, K⟩ (Wd K)) F_Room (M_Room_next_page.imp fun _ _ _ _ h => spD_sub (U := Sub.snd ⟨P, w, K⟩ (Wd K)) h) (hr.mono (by decide)) (dv 13)) (dv 20)) (dw_or1 (dt_cmp (od_ne hr.units 8) (de_meth (Sub.snd ⟨P, w, K⟩ (Wd K)) F_Room (M_Room_put.imp fun _ _ _ _ h => spD_sub (U := Sub.snd ⟨P, w, K⟩ (Wd K)) h) (hr.mono (by decide)) (dv 13) (da_cons (dv 21) da_nil)) (dv 20))))) (dss_one (ds_ret de_bl)) dss_nil) (dss_one (ds_putTup (n := 3) (Sub.snd ⟨P, w, K⟩ (Wd K)) rfl hr.u1 (de_tup (da_cons (dv 21) (da_cons (de_op od_add (dv 15) (de_lst (da_cons (dv 20) da_nil))) (da_cons (de_op od_add (dv 16) (de_lst (da_cons (dv 20) da_nil))) da_nil)))) (dv 14) (dv 20) (dgs_cons (dg_name (i := 15) S.nd rfl (by first | exact .inl rfl | exact .inr rfl)) (dgs_cons (dg_name (i := 16) S.nd rfl (by first | exact .inl rfl | exact .inr rfl)) dgs_nil)))))) (dss_one (ds_if (dt_cmp (od_lt hr.units) (dv 19) de_int) (dss_cons (ds_set (i := 20) S.nd rfl (by first | exact .inl rfl | exact .inr rfl) (de_fn (C__law_pick.imp fun _ _ _ _ h => spD_fst h) (hr.mono (by decide)) rfl (da_cons (dv 1) (da_cons (de_sortedDC (Sub.snd ⟨P, w, K⟩ (Wd K)) rfl rfl T.b_sorted (dv 14)) da_nil)))) (dss_cons (ds_aug (i := 17) S.nd rfl (by first | exact .inl rfl | exact .inr rfl) (de_callTy cd_int rfl T.b_int rfl (da_cons (de_cmp (od_nin hr.u65 8) (dv 20) (dv 15)) da_nil)) id_add) (dss_cons (ds_if (dt_not (dt_val (de_fnP C__law_same (hr.mono (by decide)) rfl (da_cons (de_meth (Sub.snd ⟨P, w, K⟩ (Wd K)) F_Room (M_Room_get.imp fun _ _ _ _ h => spD_sub (U := Sub.snd ⟨P, w, K⟩ (Wd K)) h) (hr.mono (by decide)) (dv 13) (da_cons (dv 20) da_nil)) (da_cons (de_dgetC (Sub.snd ⟨P, w, K⟩ (Wd K)) hr.u1 (dv 14) (dv 20)) da_nil))))) (dss_one (ds_ret de_bl)) dss_nil) (dss_one (ds_set (i := 15) S.nd rfl (by first | exact .inl rfl | exact .inr rfl) (de_op od_add (de_lc (own := [("own", 24)]) rfl S.nd (di_val (dv 15)) (blkOk_by (by rfl)) (fun s H C cl fp => (dg_name (i := 24) S.nd rfl (by first | exact .inl rfl | exact .inr rfl))) (fun s H C cl fp => (dts_one (dt_cmp (od_ne hr.units 8) (dv 24) (dv 20)))) (fun s H C cl fp => (dv 24))) (de_lst (da_cons (dv 20) da_nil)))))))) (dss_cons (ds_expr (de_meth0 (Sub.snd ⟨P, w, K⟩ (Wd K)) F_Room (M_Room_flush.imp fun _ _ _ _ h => spD_sub (U := Sub.snd ⟨P, w, K⟩ (Wd K)) h) (hr.mono (by decide)) (dv 13))) (dss_one (ds_asg (de_tup (da_cons (de_op od_add (dv 18) (de_callB cd_len rfl T.b_len rfl (da_cons (dv 16) da_nil))) (da_cons (de_lst da_nil) da_nil))) (dg_tup (n := 2) rfl (dgs_cons (dg_name (i := 18) S.nd rfl (by first | exact .inl rfl | exact .inr rfl)) (dgs_cons (dg_name (i := 16) S.nd rfl (by first | exact .inl rfl | exact .inr rfl)) dgs_nil))))))))) (dss_cons (ds_for PassesOwn.never rfl (di_val (de_slice sd_seq (dv 15) do_none (do_some (de_callB (cd_max2 rfl) rfl T.b_max rfl (da_cons de_int (da_cons (de_op od_sub (de_callB cd_len rfl T.b_len rfl (da_cons (dv 15) da_nil)) (dv 11)) da_nil)))))) (dg_name (i := 22) S.nd rfl (by first | exact .inl rfl | exact .inr rfl)) (dss_cons (ds_aug (i := 18) S.nd rfl (by first | exact .inl rfl | exact .inr rfl) (de_callTy cd_int rfl T.b_int rfl (da_cons (de_cmp (od_in hr.u65 8) (dv 22) (dv 16)) da_nil)) id_add) (dss_one (ds_set (i := 16) S.nd rfl (by first | exact .inl rfl | exact .inr rfl) (de_lc (own := [("own", 24)]) rfl S.nd (di_val (dv 16)) (blkOk_by (by rfl)) (fun s H C cl fp => (dg_name (i := 24) S.nd rfl (by first | exact .inl rfl | exact .inr rfl))) (fun s H C cl fp => (dts_one (dt_cmp (od_ne hr.units 8) (dv 24) (dv 22)))) (fun s H C cl fp => (dv 24))))))) (dss_cons (ds_set (i := 15) S.nd rfl (by first | exact .inl rfl | exact .inr rfl) (de_slice sd_seq (dv 15) (do_some (de_callB (cd_max2 rfl) rfl T.b_max rfl (da_cons de_int (da_cons (de_op od_sub (de_callB cd_len rfl T.b_len rfl (da_cons (dv 15) da_nil)) (dv 11)) da_nil)))) do_none)) (dss_cons (ds_set (i := 23) S.nd rfl (by first | exact .inl rfl | exact .inr rfl) (de_callTy cd_tuple rfl T.b_tuple rfl (da_cons (de_lc (own := [("page", 20)]) rfl S.nd (di_val (de_sortedDC (Sub.snd ⟨P, w, K⟩ (Wd K)) rfl rfl T.b_sorted (dv 14))) (blkOk_by (by rfl)) (fun s H C cl fp => (dg_name (i := 20) S.nd rfl (by first | exact .inl rfl | exact .inr rfl))) (fun s H C cl fp => (dts_one (dt_cmp (od_nin hr.u65 8) (dv 20) (dv 16)))) (fun s H C cl fp => (dv 20))) da_nil))) (dss_one (ds_if (dw_pt (dw_or (dt_cmp (od_ne hr.units 8) (de_meth0 (Sub.snd ⟨P, w, K⟩ (Wd K)) F_Room (M_Room_held.imp fun _ _ _ _ h => spD_sub (U := Sub.snd ⟨P, w, K⟩ (Wd K)) h) (hr.mono (by decide)) (dv 13)) (de_callTy cd_tuple rfl T.b_tuple rfl (da_cons (dv 15) da_nil))) (dw_or (dt_cmp (od_ne hr.units 8) (de_fld (Sub.snd ⟨P, w, K⟩ (Wd K)) F_Room (by decide) (dv 13)) (dv 17)) (dw_or (dt_cmp (od_ne hr.units 8) (de_fld (Sub.snd ⟨P, w, K⟩ (Wd K)) F_Room (by decide) (dv 13)) (dv 18)) (dw_or1 (dt_cmp (od_ne hr.units 8) (de_meth0 (Sub.snd ⟨P, w, K⟩ (Wd K)) F_Disk (M_Disk_pages.imp fun _ _ _ _ h => spD_sub (U := Sub.snd ⟨P, w, K⟩ (Wd K)) h) (hr.mono (by decide)) (dv 3)) (dv 23))))))) (dss_one (ds_ret de_bl)) dss_nil)))))))))))))))) (dss_one (ds_ret de_bl)))), ?_⟩
  rintro ds ⟨sa, s⟩ R hl ⟨ns, rfl, hsa, hns, h⟩
  have hsa : sa = none := hsa
  subst hsa
  simp only [dWhile, dParDF, dParFD, dPar3, dMetS, dCallX, dRaise, dInDO, dIxDO, dLstRg, dTupRg, dCallHX, dRet, dRetN, dSeq, dIfS, dSet, dPar, dAug, dFor, dDrop, dDropM, dSetM, dSetF, fLst, fItems, mBm, dNewD, dPutO, dNext, dBreak, dCont, dAndV, dOrV, dNotV, dAnd, dOr, dNot, dB, dIf, dTup, dLst, dOp, dUn, dCallP, dCall, lfP, dCons, dNil, dVar, dC, dChain, dOpO, dCallO, dItems, dEnum, dRange1, dRange2, dLc, dLc2, dNoPart, dPart, dSl, dTru, gtName, gtTup, gtCons, gtNil, dYes, dGet, dGetO, dRevT, dRevL, lcBody, lcOut, lcIn, wipeD, dFld, dSetFld, dAugFld, dMeth, dMethX, dMake, dNewDc, dNewLc, dBmC, dOpC, dCallC, dSeqC, dIxC, dDGet, dDPut, dDDel, dDIn, dDGet2, dDPop2, dDLen, dDSort, dEqE, dSetIx, dSlC, dDictP, dLock, kAny, kKeys, dForK, dLcK, self_get, self_put, snd_get, snd_put, okV, okFst, okVX, List.map_cons, List.map_nil, List.cons_append, List.nil_append, List.length_cons, List.length_nil, Nat.reduceAdd, Nat.reduceSub, Nat.zero_add, Nat.sub_self, List.replicate_zero, List.replicate_succ, List.getElem?_cons_zero, List.getElem?_cons_succ, List.set_cons_zero, List.set_cons_succ, Option.some.injEq, Dv.Slot.d.injEq, Dv.Slot.own.injEq, Ob.lst.injEq, Ob.dic.injEq, exists_eq_left', exists_eq_left, exists_and_left, List.cons.injEq, and_true, true_and, and_assoc, D.raw.injEq, V.ty.injEq, D.bl.injEq, D.int.injEq, D.str.injEq, D.tup.injEq, D.lst.injEq, Bool.true_eq_false, Bool.false_eq_true, if_true, if_false, ite_true, ite_false, reduceIte, reduceCtorEq, false_or, or_false, itemsD_tup, itemsD_lst, itemsD_dic, exists_const, addP_int, addP_str, addP_tup, addP_lst, cmpP_int, intP_int, slD_tup, slD_lst, lenD_tup, lenD_lst, lenD_str, dEnterP, dPutTup]
  have hzl := sizeLine_eq
  refine ⟨ns, rfl, hns, fun ms => ⟨ms, rfl, fun p _ => ⟨by decide, by decide, ?_⟩⟩⟩
  rw [rangeD_map]
  refine for_mapg (pre := []) (fun qs ρ (s2 : Option Addr × Cs) => s2.1 = some p ∧ ∃ x2 x3 x4 x5 x6 x7 x8 x9 x10 x11 x12 x13 x14 x15 x16 x17 x18 x19 x20 x21 x22 x23 x24, ρ = [.d (.lst (ns.map .int)), .d (.raw (.ref p)), x2, x3, x4, x5, x6, x7, x8, x9, x10, x11, x12, x13, x14, x15, x16, x17, x18, x19, x20, x21, x22, x23, x24]) ⟨rfl, _, _, _, _, _, _, _, _, _, _, _, _, _, _, _, _, _, _, _, _, _, _, _, rfl⟩ ?_ (fun ρ s2 _ => h _)
  rintro qs k rest _ ρ ⟨_, s2⟩ ⟨rfl, x2, x3, x4, x5, x6, x7, x8, x9, x10, x11, x12, x13, x14, x15, x16, x17, x18, x19, x20, x21, x22, x23, x24, rfl⟩ K1 hK1
  simp only [dWhile, dParDF, dParFD, dPar3, dMetS, dCallX, dRaise, dInDO, dIxDO, dLstRg, dTupRg, dCallHX, dRet, dRetN, dSeq, dIfS, dSet, dPar, dAug, dFor, dDrop, dDropM, dSetM, dSetF, fLst, fItems, mBm, dNewD, dPutO, dNext, dBreak, dCont, dAndV, dOrV, dNotV, dAnd, dOr, dNot, dB, dIf, dTup, dLst, dOp, dUn, dCallP, dCall, lfP, dCons, dNil, dVar, dC, dChain, dOpO, dCallO, dItems, dEnum, dRange1, dRange2, dLc, dLc2, dNoPart, dPart, dSl, dTru, gtName, gtTup, gtCons, gtNil, dYes, dGet, dGetO, dRevT, dRevL, lcBody, lcOut, lcIn, wipeD, dFld, dSetFld, dAugFld, dMeth, dMethX, dMake, dNewDc, dNewLc, dBmC, dOpC, dCallC, dSeqC, dIxC, dDGet, dDPut, dDDel, dDIn, dDGet2, dDPop2, dDLen, dDSort, dEqE, dSetIx, dSlC, dDictP, dLock, kAny, kKeys, dForK, dLcK, self_get, self_put, snd_get, snd_put, okV, okFst, okVX, List.map_cons, List.map_nil, List.cons_append, List.nil_append, List.length_cons, List.length_nil, Nat.reduceAdd, Nat.reduceSub, Nat.zero_add, Nat.sub_self, List.replicate_zero, List.replicate_succ, List.getElem?_cons_zero, List.getElem?_cons_succ, List.set_cons_zero, List.set_cons_succ, Option.some.injEq, Dv.Slot.d.injEq, Dv.Slot.own.injEq, Ob.lst.injEq, Ob.dic.injEq, exists_eq_left', exists_eq_left, exists_and_left, List.cons.injEq, and_true, true_and, and_assoc, D.raw.injEq, V.ty.injEq, D.bl.injEq, D.int.injEq, D.str.injEq, D.tup.injEq, D.lst.injEq, Bool.true_eq_false, Bool.false_eq_true, if_true, if_false, ite_true, ite_false, reduceIte, reduceCtorEq, false_or, or_false, itemsD_tup, itemsD_lst, itemsD_dic, exists_const, addP_int, addP_str, addP_tup, addP_lst, cmpP_int, intP_int, slD_tup, slD_lst, lenD_tup, lenD_lst, lenD_str, dEnterP, dPutTup]
  intro a0 ha0
  refine ⟨a0, rfl, updS_same, fun A s3 ea hl0 hr0 hn0 hA hf => ⟨by omega, fun ad had => ⟨by decide, by decide, ?_⟩⟩⟩
  subst ea
  have nn : ∀ {t : Cs} {b c : Addr} {u : Cell}, t b = some u → t c = none → c ≠ b := fun e1 e2 z => by
    subst z
    rw [e1] at e2
    cases e2
  have oad : A.off ad := ⟨nn hA.o had, nn hA.l had, nn hA.r had, nn hA.n had⟩
  refine for_mapg (pre := []) (fun ts ρ (s2 : Option Addr × Cs) => s2.1 = some p ∧ ∃ dl, DiskAt CDisk s2.2 A dl ∧ s2.2 ad = some (.lst (dl.map Deed.d)) ∧ okL dl ∧ A.off ad ∧ dl.length = ts.length ∧ ∃ x2 x5 x6 x7 x8 x9 x10 x11 x12 x13 x14 x15 x16 x17 x18 x19 x20 x21 x22 x23 x24, ρ = [.d (.lst (ns.map .int)), .d (.raw (.ref p)), x2, .d (.raw (.ref A.a)), .d (.raw (.ref ad)), x5, x6, x7, x8, x9, x10, x11, x12, x13, x14, x15, x16, x17, x18, x19, x20, x21, x22, x23, x24])
    ⟨rfl, [], hA.upd oad, updS_same, ⟨Nat.zero_le _, (fun x hx => by cases hx)⟩, oad, rfl, _, _, _, _, _, _, _, _, _, _, _, _, _, _, _, _, _, _, _, _, _, rfl⟩ ?_ ?_
  · rintro ts z1 rs1 er1 ρ ⟨_, s4⟩ ⟨rfl, dl, hA4, hd4, hb4, _, hdl, x2, x5, x6, x7, x8, x9, x10, x11, x12, x13, x14, x15, x16, x17, x18, x19, x20, x21, x22, x23, x24, rfl⟩ K2 hK2
    simp only [dWhile, dParDF, dParFD, dPar3, dMetS, dCallX, dRaise, dInDO, dIxDO, dLstRg, dTupRg, dCallHX, dRet, dRetN, dSeq, dIfS, dSet, dPar, dAug, dFor, dDrop, dDropM, dSetM, dSetF, fLst, fItems, mBm, dNewD, dPutO, dNext, dBreak, dCont, dAndV, dOrV, dNotV, dAnd, dOr, dNot, dB, dIf, dTup, dLst, dOp, dUn, dCallP, dCall, lfP, dCons, dNil, dVar, dC, dChain, dOpO, dCallO, dItems, dEnum, dRange1, dRange2, dLc, dLc2, dNoPart, dPart, dSl, dTru, gtName, gtTup, gtCons, gtNil, dYes, dGet, dGetO, dRevT, dRevL, lcBody, lcOut, lcIn, wipeD, dFld, dSetFld, dAugFld, dMeth, dMethX, dMake, dNewDc, dNewLc, dBmC, dOpC, dCallC, dSeqC, dIxC, dDGet, dDPut, dDDel, dDIn, dDGet2, dDPop2, dDLen, dDSort, dEqE, dSetIx, dSlC, dDictP, dLock, kAny, kKeys, dForK, dLcK, self_get, self_put, snd_get, snd_put, okV, okFst, okVX, List.map_cons, List.map_nil, List.cons_append, List.nil_append, List.length_cons, List.length_nil, Nat.reduceAdd, Nat.reduceSub, Nat.zero_add, Nat.sub_self, List.replicate_zero, List.replicate_succ, List.getElem?_cons_zero, List.getElem?_cons_succ, List.set_cons_zero, List.set_cons_succ, Option.some.injEq, Dv.Slot.d.injEq, Dv.Slot.own.injEq, Ob.lst.injEq, Ob.dic.injEq, exists_eq_left', exists_eq_left, exists_and_left, List.cons.injEq, and_true, true_and, and_assoc, D.raw.injEq, V.ty.injEq, D.bl.injEq, D.int.injEq, D.str.injEq, D.tup.injEq, D.lst.injEq, Bool.true_eq_false, Bool.false_eq_true, if_true, if_false, ite_true, ite_false, reduceIte, reduceCtorEq, false_or, or_false, itemsD_tup, itemsD_lst, itemsD_dic, exists_const, addP_int, addP_str, addP_tup, addP_lst, cmpP_int, intP_int, slD_tup, slD_lst, lenD_tup, lenD_lst, lenD_str, dEnterP, dPutTup]
    have dlen : dl.length < 10 := by
      have := congrArg List.length er1
      rw [List.nil_append, List.length_range, List.length_append, List.length_cons] at this
      omega
    refine ⟨p, 5, rfl, rfl, by decide, fun r1 a1 b1 => ?_⟩
    show addP (D.int 1) (D.int r1) _
    rw [addP_int]
    refine ⟨p, rfl, rfl, fun l1 hl1 => ⟨by omega, p, rfl, rfl, fun l2 hl2 => ⟨by omega, p, rfl, rfl, fun l3 hl3 => ⟨by omega, by omega, p, 2, rfl, rfl, by decide, fun r4 a4 b4 => ⟨p, rfl, rfl, fun l5 hl5 => ⟨by omega, p, 3, rfl, rfl, by decide, fun r6 a6 b6 => ?_⟩⟩⟩⟩⟩⟩
    show addP (D.int 1) (D.int r6) _
    rw [addP_int]
    refine ⟨by omega, by omega, p, 9, rfl, rfl, by decide, fun r8 a8 b8 => ⟨by omega, by omega, by omega, p, _, rfl, rfl, by simp, fun x hx => ?_⟩⟩
    have hy : ∃ y : Deed, y.sm ∧ x = y.d := by
      simp only [List.mem_cons, List.not_mem_nil, or_false] at hx
      obtain ⟨i4, rfl⟩ : ∃ i : Nat, r4 = i := ⟨r4.toNat, by omega⟩
      obtain ⟨i8, rfl⟩ : ∃ i : Nat, r8 = i := ⟨r8.toNat, by omega⟩
      rcases hx with rfl | rfl | rfl | rfl | rfl | rfl
      · exact ⟨.page (1 + r1) l1, by show l1.length ≤ 1000; omega, rfl⟩
      · exact ⟨.log l2, by show l2.length ≤ 1000; omega, rfl⟩
      · exact ⟨.log l3, by show l3.length ≤ 1000; omega, rfl⟩
      · exact ⟨.root i4 l5, ⟨by omega, by omega⟩, rfl⟩
      · exact ⟨.free (1 + r6), trivial, rfl⟩
      · exact ⟨.keep i8, trivial, rfl⟩
    obtain ⟨y, hy, rfl⟩ := hy
    have hb5 : okL (dl ++ [y]) := okL_add hb4 (by omega) hy
    refine ⟨A, dl, y, _, rfl, rfl, hA4, hb5, fun s5 hA5 hf5 => ?_⟩
    have e5 : s5 ad = some (.lst (dl.map Deed.d)) := (hf5 ad oad).trans hd4
    refine ⟨ad, rfl, ⟨_, e5⟩, _, e5, fun hz => ⟨by rw [List.length_map]; omega, ?_⟩⟩
    rw [n_snoc]
    refine ⟨A, _, dl ++ [y], rfl, hA5.upd oad, .inr ⟨ad, rfl, updS_same⟩, hb5, by rw [List.length_append, List.length_singleton]; omega, fun s6 k6 => ⟨true, rfl, (if_neg (by decide)).mpr ?_⟩⟩
    exact hK2 _ _ ⟨rfl, dl ++ [y], (hA5.upd oad).kp k6, k6.at updS_same, hb5, oad, by rw [List.length_append, List.length_append, hdl]; rfl, _, _, _, _, _, _, _, _, _, _, _, _, _, _, _, _, _, _, _, _, _, rfl⟩
  · rintro ρ ⟨_, s4⟩ ⟨rfl, dl, hA4, hd4, hb4, _, hdl, x2, x5, x6, x7, x8, x9, x10, x11, x12, x13, x14, x15, x16, x17, x18, x19, x20, x21, x22, x23, x24, rfl⟩
    simp only [dWhile, dParDF, dParFD, dPar3, dMetS, dCallX, dRaise, dInDO, dIxDO, dLstRg, dTupRg, dCallHX, dRet, dRetN, dSeq, dIfS, dSet, dPar, dAug, dFor, dDrop, dDropM, dSetM, dSetF, fLst, fItems, mBm, dNewD, dPutO, dNext, dBreak, dCont, dAndV, dOrV, dNotV, dAnd, dOr, dNot, dB, dIf, dTup, dLst, dOp, dUn, dCallP, dCall, lfP, dCons, dNil, dVar, dC, dChain, dOpO, dCallO, dItems, dEnum, dRange1, dRange2, dLc, dLc2, dNoPart, dPart, dSl, dTru, gtName, gtTup, gtCons, gtNil, dYes, dGet, dGetO, dRevT, dRevL, lcBody, lcOut, lcIn, wipeD, dFld, dSetFld, dAugFld, dMeth, dMethX, dMake, dNewDc, dNewLc, dBmC, dOpC, dCallC, dSeqC, dIxC, dDGet, dDPut, dDDel, dDIn, dDGet2, dDPop2, dDLen, dDSort, dEqE, dSetIx, dSlC, dDictP, dLock, kAny, kKeys, dForK, dLcK, self_get, self_put, snd_get, snd_put, okV, okFst, okVX, List.map_cons, List.map_nil, List.cons_append, List.nil_append, List.length_cons, List.length_nil, Nat.reduceAdd, Nat.reduceSub, Nat.zero_add, Nat.sub_self, List.replicate_zero, List.replicate_succ, List.getElem?_cons_zero, List.getElem?_cons_succ, List.set_cons_zero, List.set_cons_succ, Option.some.injEq, Dv.Slot.d.injEq, Dv.Slot.own.injEq, Ob.lst.injEq, Ob.dic.injEq, exists_eq_left', exists_eq_left, exists_and_left, List.cons.injEq, and_true, true_and, and_assoc, D.raw.injEq, V.ty.injEq, D.bl.injEq, D.int.injEq, D.str.injEq, D.tup.injEq, D.lst.injEq, Bool.true_eq_false, Bool.false_eq_true, if_true, if_false, ite_true, ite_false, reduceIte, reduceCtorEq, false_or, or_false, itemsD_tup, itemsD_lst, itemsD_dic, exists_const, addP_int, addP_str, addP_tup, addP_lst, cmpP_int, intP_int, slD_tup, slD_lst, lenD_tup, lenD_lst, lenD_str, dEnterP, dPutTup]
    have hdl10 : dl.length = 10 := by rw [hdl]; rfl
    refine ⟨A.a, rfl, _, hA4.o, rfl, A, dl, rfl, hA4, hb4, ad, rfl, _, hd4, _, rfl, sm_deeds dl, true, rfl, (if_neg (by decide)).mpr ⟨ad, rfl, _, hd4, fun hz => ⟨rfl, by omega, by rw [List.length_map, hdl10]; decide, ?_⟩⟩⟩
    rw [List.length_map]
    refine for_mapg (pre := []) (fun us ρ (s2 : Option Addr × Cs) => s2.1 = some p ∧ DiskAt CDisk s2.2 A dl ∧ s2.2 ad = some (.lst (dl.map Deed.d)) ∧ ∃ x2 x5 x6 x7 x8 x9 x10 x11 x12 x13 x14 x15 x16 x17 x18 x19 x20 x21 x22 x23 x24, ρ = [.d (.lst (ns.map .int)), .d (.raw (.ref p)), x2, .d (.raw (.ref A.a)), .d (.raw (.ref ad)), x5, x6, x7, x8, x9, x10, x11, x12, x13, x14, x15, x16, x17, x18, x19, x20, x21, x22, x23, x24]) ⟨rfl, hA4, hd4, _, _, _, _, _, _, _, _, _, _, _, _, _, _, _, _, _, _, _, _, _, rfl⟩ ?_ ?_
    · rintro us m rs2 er2 ρ ⟨_, s5⟩ ⟨rfl, hA5, hd5, x2, x5, x6, x7, x8, x9, x10, x11, x12, x13, x14, x15, x16, x17, x18, x19, x20, x21, x22, x23, x24, rfl⟩ K2 hK2
      simp only [dWhile, dParDF, dParFD, dPar3, dMetS, dCallX, dRaise, dInDO, dIxDO, dLstRg, dTupRg, dCallHX, dRet, dRetN, dSeq, dIfS, dSet, dPar, dAug, dFor, dDrop, dDropM, dSetM, dSetF, fLst, fItems, mBm, dNewD, dPutO, dNext, dBreak, dCont, dAndV, dOrV, dNotV, dAnd, dOr, dNot, dB, dIf, dTup, dLst, dOp, dUn, dCallP, dCall, lfP, dCons, dNil, dVar, dC, dChain, dOpO, dCallO, dItems, dEnum, dRange1, dRange2, dLc, dLc2, dNoPart, dPart, dSl, dTru, gtName, gtTup, gtCons, gtNil, dYes, dGet, dGetO, dRevT, dRevL, lcBody, lcOut, lcIn, wipeD, dFld, dSetFld, dAugFld, dMeth, dMethX, dMake, dNewDc, dNewLc, dBmC, dOpC, dCallC, dSeqC, dIxC, dDGet, dDPut, dDDel, dDIn, dDGet2, dDPop2, dDLen, dDSort, dEqE, dSetIx, dSlC, dDictP, dLock, kAny, kKeys, dForK, dLcK, self_get, self_put, snd_get, snd_put, okV, okFst, okVX, List.map_cons, List.map_nil, List.cons_append, List.nil_append, List.length_cons, List.length_nil, Nat.reduceAdd, Nat.reduceSub, Nat.zero_add, Nat.sub_self, List.replicate_zero, List.replicate_succ, List.getElem?_cons_zero, List.getElem?_cons_succ, List.set_cons_zero, List.set_cons_succ, Option.some.injEq, Dv.Slot.d.injEq, Dv.Slot.own.injEq, Ob.lst.injEq, Ob.dic.injEq, exists_eq_left', exists_eq_left, exists_and_left, List.cons.injEq, and_true, true_and, and_assoc, D.raw.injEq, V.ty.injEq, D.bl.injEq, D.int.injEq, D.str.injEq, D.tup.injEq, D.lst.injEq, Bool.true_eq_false, Bool.false_eq_true, if_true, if_false, ite_true, ite_false, reduceIte, reduceCtorEq, false_or, or_false, itemsD_tup, itemsD_lst, itemsD_dic, exists_const, addP_int, addP_str, addP_tup, addP_lst, cmpP_int, intP_int, slD_tup, slD_lst, lenD_tup, lenD_lst, lenD_str, dEnterP, dPutTup]
      refine ⟨p, 4, rfl, rfl, by decide, fun sg0 a0 b0 => ?_⟩
      obtain ⟨sg, rfl⟩ : ∃ i : Nat, sg0 = i := ⟨sg0.toNat, by omega⟩
      have fin : ∀ (Q : D → Cs → Prop) (D' : D), D' = .lst ((fallL dl m sg).map Deed.d) → (∀ t2, Kp s5 t2 → Q (.bl true) t2) → ∃ a, V.ref ad = V.ref a ∧ ∃ x, s5 a = some (.lst x) ∧ o_fallen CDisk [.tup x, .int (m : Nat), .int (sg : Nat)] s5 fun d1 t1 => o_isd CDisk [d1, D'] t1 Q := by
        intro Q D' eD hQ
        refine ⟨ad, rfl, _, hd5, dl, m, sg, rfl, hb4, fun A2 t1 h1 h2 h3 h4 hA2 hf2 => ?_⟩
        have k2 : Kp s5 t1 := fun b hb => hf2 b ⟨fun z => hb (by rw [z]; exact h1), fun z => hb (by rw [z]; exact h2), fun z => hb (by rw [z]; exact h3), fun z => hb (by rw [z]; exact h4)⟩
        obtain ⟨g1, g2⟩ := fallL_ok hb4 m sg
        exact ⟨A2, D', _, rfl, hA2, .inl eD, g1, by omega, fun s' k3 => hQ s' (k2.trans k3)⟩
      simp only [Int.zero_add]
      refine ⟨ad, rfl, _, hd5, ad, rfl, _, hd5, fun _ => ⟨rfl, ?_⟩⟩
      rw [cutM_to]
      have hml : ((dl.take m).map Deed.d).length ≤ 10 := by rw [List.length_map, List.length_take]; omega
      rw [List.length_map]
      cases e : dl[m]? with
      | none =>
        have hm : dl.length ≤ m := List.getElem?_eq_none_iff.mp e
        rw [decide_eq_false (by omega)]
        refine (if_neg Bool.false_ne_true).mpr ⟨ad, rfl, _, hd5, fun _ => ⟨rfl, ?_⟩⟩
        rw [List.length_map, decide_eq_false (by omega)]
        refine (if_neg Bool.false_ne_true).mpr (fin _ _ (by rw [fallL, e, List.append_nil]) fun t2 k2 => ⟨true, rfl, (if_neg (by decide)).mpr (hK2 _ _ ⟨rfl, hA5.kp k2, k2.at hd5, _, _, _, _, _, _, _, _, _, _, _, _, _, _, _, _, _, _, _, _, _, rfl⟩)⟩)
      | some y =>
        have hm : m < dl.length := (List.getElem?_eq_some_iff.mp e).1
        have hat : atI (dl.map Deed.d) (m : Nat) = some y.d := L2.atI_nat (by rw [List.getElem?_map, e]; rfl)
        rw [decide_eq_true (by omega)]
        refine (if_pos rfl).mpr ⟨ad, rfl, _, hd5, _, hat, _, tag_ix y, tag_shp y, shp_log, ?_⟩
        cases y with
        | log l =>
          show (if isTag (.log l) "log" = true then _ else _)
          rw [tag_log]
          refine (if_pos rfl).mpr ⟨ad, rfl, _, hd5, _, hat, _, ixt1 _ _ _, _, rfl, _, cut_to l sg, by omega, by omega, by simp; omega, ad, rfl, _, hd5, fun _ => ⟨rfl, ?_⟩⟩
          rw [List.length_map, decide_eq_true (show ((m : Nat) : Int) < (dl.length : Nat) by omega)]
          refine (if_pos rfl).mpr ⟨ad, rfl, _, hd5, _, hat, _, tag_ix (.log l), tag_shp (.log l), shp_root, ?_⟩
          show (if isTag (.log l) "root" = true then _ else _)
          rw [tag_root]
          exact (if_neg Bool.false_ne_true).mpr (fin _ _ (by rw [fallL, e]; rw [List.map_append]; rfl) fun t2 k2 => ⟨true, rfl, (if_neg (by decide)).mpr (hK2 _ _ ⟨rfl, hA5.kp k2, k2.at hd5, _, _, _, _, _, _, _, _, _, _, _, _, _, _, _, _, _, _, _, _, _, rfl⟩)⟩)
        | page q l =>
          show (if isTag (.page q l) "log" = true then _ else _)
          rw [tag_log]
          refine (if_neg Bool.false_ne_true).mpr ⟨ad, rfl, _, hd5, fun _ => ⟨rfl, ?_⟩⟩
          rw [List.length_map, decide_eq_true (show ((m : Nat) : Int) < (dl.length : Nat) by omega)]
          refine (if_pos rfl).mpr ⟨ad, rfl, _, hd5, _, hat, _, tag_ix (.page q l), tag_shp (.page q l), shp_root, ?_⟩
          show (if isTag (.page q l) "root" = true then _ else _)
          rw [tag_root]
          exact (if_neg Bool.false_ne_true).mpr (fin _ _ (by rw [fallL, e]; rw [List.append_nil]) fun t2 k2 => ⟨true, rfl, (if_neg (by decide)).mpr (hK2 _ _ ⟨rfl, hA5.kp k2, k2.at hd5, _, _, _, _, _, _, _, _, _, _, _, _, _, _, _, _, _, _, _, _, _, rfl⟩)⟩)
        | free q =>
          show (if isTag (.free q) "log" = true then _ else _)
          rw [tag_log]
          refine (if_neg Bool.false_ne_true).mpr ⟨ad, rfl, _, hd5, fun _ => ⟨rfl, ?_⟩⟩
          rw [List.length_map, decide_eq_true (show ((m : Nat) : Int) < (dl.length : Nat) by omega)]
          refine (if_pos rfl).mpr ⟨ad, rfl, _, hd5, _, hat, _, tag_ix (.free q), tag_shp (.free q), shp_root, ?_⟩
          show (if isTag (.free q) "root" = true then _ else _)
          rw [tag_root]
          exact (if_neg Bool.false_ne_true).mpr (fin _ _ (by rw [fallL, e]; rw [List.append_nil]) fun t2 k2 => ⟨true, rfl, (if_neg (by decide)).mpr (hK2 _ _ ⟨rfl, hA5.kp k2, k2.at hd5, _, _, _, _, _, _, _, _, _, _, _, _, _, _, _, _, _, _, _, _, _, rfl⟩)⟩)
        | keep q =>
          show (if isTag (.keep q) "log" = true then _ else _)
          rw [tag_log]
          refine (if_neg Bool.false_ne_true).mpr ⟨ad, rfl, _, hd5, fun _ => ⟨rfl, ?_⟩⟩
          rw [List.length_map, decide_eq_true (show ((m : Nat) : Int) < (dl.length : Nat) by omega)]
          refine (if_pos rfl).mpr ⟨ad, rfl, _, hd5, _, hat, _, tag_ix (.keep q), tag_shp (.keep q), shp_root, ?_⟩
          show (if isTag (.keep q) "root" = true then _ else _)
          rw [tag_root]
          exact (if_neg Bool.false_ne_true).mpr (fin _ _ (by rw [fallL, e]; rw [List.append_nil]) fun t2 k2 => ⟨true, rfl, (if_neg (by decide)).mpr (hK2 _ _ ⟨rfl, hA5.kp k2, k2.at hd5, _, _, _, _, _, _, _, _, _, _, _, _, _, _, _, _, _, _, _, _, _, rfl⟩)⟩)
        | root i l =>
          show (if isTag (.root i l) "log" = true then _ else _)
          rw [tag_log]
          refine (if_neg Bool.false_ne_true).mpr ⟨ad, rfl, _, hd5, fun _ => ⟨rfl, ?_⟩⟩
          rw [List.length_map, decide_eq_true (show ((m : Nat) : Int) < (dl.length : Nat) by omega)]
          refine (if_pos rfl).mpr ⟨ad, rfl, _, hd5, _, hat, _, tag_ix (.root i l), tag_shp (.root i l), shp_root, ?_⟩
          show (if isTag (.root i l) "root" = true then _ else _)
          rw [tag_root]
          refine (if_pos rfl).mpr ?_
          rw [cmpP_int]
          by_cases hs0 : 0 < sg
          · rw [decide_eq_true (show (0 : Int) < (sg : Nat) by omega)]
            refine ⟨true, rfl, (if_pos rfl).mpr ⟨ad, rfl, _, hd5, _, hat, _, ixt1 _ _ _, by omega, by omega, by omega, by omega, ?_⟩⟩
            exact (fin _ _ (by rw [fallL, e]; simp only [hs0, if_true, List.map_append]; rfl) fun t2 k2 => ⟨true, rfl, (if_neg (by decide)).mpr (hK2 _ _ ⟨rfl, hA5.kp k2, k2.at hd5, _, _, _, _, _, _, _, _, _, _, _, _, _, _, _, _, _, _, _, _, _, rfl⟩)⟩)
          · rw [decide_eq_false (show ¬ (0 : Int) < (sg : Nat) by omega)]
            refine ⟨false, rfl, (if_neg Bool.false_ne_true).mpr ?_⟩
            exact (fin _ _ (by rw [fallL, e]; simp only [hs0, if_false, List.append_nil]) fun t2 k2 => ⟨true, rfl, (if_neg (by decide)).mpr (hK2 _ _ ⟨rfl, hA5.kp k2, k2.at hd5, _, _, _, _, _, _, _, _, _, _, _, _, _, _, _, _, _, _, _, _, _, rfl⟩)⟩)
    · rintro ρ ⟨_, s5⟩ ⟨rfl, hA5, hd5, x2, x5, x6, x7, x8, x9, x10, x11, x12, x13, x14, x15, x16, x17, x18, x19, x20, x21, x22, x23, x24, rfl⟩
      clear hA4 hd4 hA hf hl0 hr0 hn0 had oad hA5 hd5
      simp only [dWhile, dParDF, dParFD, dPar3, dMetS, dCallX, dRaise, dInDO, dIxDO, dLstRg, dTupRg, dCallHX, dRet, dRetN, dSeq, dIfS, dSet, dPar, dAug, dDrop, dDropM, dSetM, dSetF, fLst, fItems, mBm, dNewD, dPutO, dNext, dBreak, dCont, dAndV, dOrV, dNotV, dAnd, dOr, dNot, dB, dIf, dTup, dLst, dOp, dUn, dCallP, dCall, lfP, dCons, dNil, dVar, dC, dChain, dOpO, dCallO, dItems, dEnum, dRange1, dRange2, dLc, dLc2, dNoPart, dPart, dSl, dTru, gtName, gtTup, gtCons, gtNil, dYes, dGet, dGetO, dRevT, dRevL, lcBody, lcOut, lcIn, wipeD, dFld, dSetFld, dAugFld, dMeth, dMethX, dMake, dNewDc, dNewLc, dBmC, dOpC, dCallC, dSeqC, dIxC, dDGet, dDPut, dDDel, dDIn, dDGet2, dDPop2, dDLen, dDSort, dEqE, dSetIx, dSlC, dDictP, dLock, kAny, kKeys, dForK, dLcK, self_get, self_put, snd_get, snd_put, okV, okFst, okVX, List.map_cons, List.map_nil, List.cons_append, List.nil_append, List.length_cons, List.length_nil, Nat.reduceAdd, Nat.reduceSub, Nat.zero_add, Nat.sub_self, List.replicate_zero, List.replicate_succ, List.getElem?_cons_zero, List.getElem?_cons_succ, List.set_cons_zero, List.set_cons_succ, Option.some.injEq, Dv.Slot.d.injEq, Dv.Slot.own.injEq, Ob.lst.injEq, Ob.dic.injEq, exists_eq_left', exists_eq_left, exists_and_left, List.cons.injEq, and_true, true_and, and_assoc, D.raw.injEq, V.ty.injEq, D.bl.injEq, D.int.injEq, D.str.injEq, D.tup.injEq, D.lst.injEq, Bool.true_eq_false, Bool.false_eq_true, if_true, if_false, ite_true, ite_false, reduceIte, reduceCtorEq, false_or, or_false, itemsD_tup, itemsD_lst, itemsD_dic, exists_const, addP_int, addP_str, addP_tup, addP_lst, cmpP_int, intP_int, slD_tup, slD_lst, lenD_tup, lenD_lst, lenD_str, dEnterP, dPutTup]
      refine ⟨p, 4, rfl, rfl, by decide, fun r9 a9 b9 => ?_⟩
      show addP (D.int 1) (D.int r9) _
      rw [addP_int]
      intro d0 hd0
      refine ⟨d0, rfl, updS_same, fun A s6 ea hl0 hr0 hn0 hA hf => ⟨p, 5, rfl, rfl, by decide, fun r10 a10 b10 => ?_⟩⟩
      subst ea
      show addP (D.int 1) (D.int r10) _
      rw [addP_int]
      intro b0 hb0
      have ob0 : A.off b0 := ⟨nn hA.o hb0, nn hA.l hb0, nn hA.r hb0, nn hA.n hb0⟩
      refine ⟨b0, A, [], 1 + r9, 1 + r10, rfl, updS_same, hA.upd ob0, ob0, fun Bq s7 eb hl1 ho1 hf1 hRD hfR => ⟨rfl, fun la hla => ⟨by omega, by omega, by omega, ?_⟩⟩⟩
      subst eb
      have oA : A.off la := ⟨nn hRD.d.o hla, nn hRD.d.l hla, nn hRD.d.r hla, nn hRD.d.n hla⟩
      have oB : Bq.off la := ⟨nn hRD.r.i hla, nn hRD.r.l hla, nn hRD.r.o hla, nn hRD.r.f hla⟩
      have hfr0 : 0 < 1 + r9 := by omega
      generalize hfrq : 1 + r9 = fr at *
      generalize hfiq : 1 + r10 = fi at *
      simp only [dFor, dRange1, dCons, dNil, dC, List.map_cons, List.map_nil, List.cons_append, List.nil_append, List.length_cons, List.length_nil, Nat.reduceAdd, Nat.reduceSub, Nat.zero_add, Nat.sub_self, List.replicate_zero, List.replicate_succ, List.getElem?_cons_zero, List.getElem?_cons_succ, List.set_cons_zero, List.set_cons_succ, Option.some.injEq, Dv.Slot.d.injEq, Dv.Slot.own.injEq, Ob.lst.injEq, Ob.dic.injEq, exists_eq_left', exists_eq_left, exists_and_left, List.cons.injEq, and_true, true_and, and_assoc, D.raw.injEq, V.ty.injEq, D.bl.injEq, D.int.injEq, D.str.injEq, D.tup.injEq, D.lst.injEq, Bool.true_eq_false, Bool.false_eq_true, if_true, if_false, ite_true, ite_false, reduceIte, reduceCtorEq, false_or, or_false, itemsD_tup, itemsD_lst, itemsD_dic, exists_const]
      refine ⟨by decide, by decide, ?_⟩
      refine for_mapg (zs := List.range 25) (pre := []) (fun ts ρ (s2 : Option Addr × Cs) => s2.1 = some p ∧ ∃ ls dl rm, LI fr fi ts.length fr dl rm ls ∧ RD CDisk CRoom s2.2 A Bq dl rm ∧ s2.2 la = some (.dct (ls.map pk)) ∧ ∃ x2 x4 x5 x6 x7 x8 x9 x10 x19 x20 x21 x22 x23 x24, ρ = [.d (.lst (ns.map .int)), .d (.raw (.ref p)), x2, .d (.raw (.ref A.a)), x4, x5, x6, x7, x8, x9, x10, .d (.int fr), .d (.int fi), .d (.raw (.ref Bq.a)), .d (.raw (.ref la)), .d (.lst (rm.order.map .int)), .d (.lst (rm.fresh.map .int)), .d (.int rm.reads), .d (.int rm.writes), x19, x20, x21, x22, x23, x24])
        ⟨rfl, [], [], _, LI.ini _ (by omega), hRD.upd oA oB, updS_same, _, _, _, _, _, _, _, _, _, _, _, _, _, _, rfl⟩ ?_ (fun ρ s2 hh => ?_)
      · rintro ts z5 rs5 er5 ρ ⟨_, s8⟩ ⟨rfl, ls, dl, rm, hL, hR, hla8, x2, x4, x5, x6, x7, x8, x9, x10, x19, x20, x21, x22, x23, x24, rfl⟩ K2 hK2
        have hts : ts.length < 25 := by
          have := congrArg List.length er5
          rw [List.nil_append, List.length_range, List.length_append, List.length_cons] at this
          omega
        simp only [gtName, List.set_cons_succ, List.set_cons_zero]
        rw [dSeq]
        simp only [dWhile, dParDF, dParFD, dPar3, dMetS, dCallX, dRaise, dInDO, dIxDO, dLstRg, dTupRg, dCallHX, dRet, dRetN, dIfS, dSet, dPar, dAug, dFor, dDrop, dDropM, dSetM, dSetF, fLst, fItems, mBm, dNewD, dPutO, dNext, dBreak, dCont, dAndV, dOrV, dNotV, dAnd, dOr, dNot, dB, dIf, dTup, dLst, dOp, dUn, dCallP, dCall, lfP, dCons, dNil, dVar, dC, dChain, dOpO, dCallO, dItems, dEnum, dRange1, dRange2, dLc, dLc2, dNoPart, dPart, dSl, dTru, gtName, gtTup, gtCons, gtNil, dYes, dGet, dGetO, dRevT, dRevL, lcBody, lcOut, lcIn, wipeD, dFld, dSetFld, dAugFld, dMeth, dMethX, dMake, dNewDc, dNewLc, dBmC, dOpC, dCallC, dSeqC, dIxC, dDGet, dDPut, dDDel, dDIn, dDGet2, dDPop2, dDLen, dDSort, dEqE, dSetIx, dSlC, dDictP, dLock, kAny, kKeys, dForK, dLcK, self_get, self_put, snd_get, snd_put, okV, okFst, okVX, List.map_cons, List.map_nil, List.cons_append, List.nil_append, List.length_cons, List.length_nil, Nat.reduceAdd, Nat.reduceSub, Nat.zero_add, Nat.sub_self, List.replicate_zero, List.replicate_succ, List.getElem?_cons_zero, List.getElem?_cons_succ, List.set_cons_zero, List.set_cons_succ, Option.some.injEq, Dv.Slot.d.injEq, Dv.Slot.own.injEq, Ob.lst.injEq, Ob.dic.injEq, exists_eq_left', exists_eq_left, exists_and_left, List.cons.injEq, and_true, true_and, and_assoc, D.raw.injEq, V.ty.injEq, D.bl.injEq, D.int.injEq, D.str.injEq, D.tup.injEq, D.lst.injEq, Bool.true_eq_false, Bool.false_eq_true, if_true, if_false, ite_true, ite_false, reduceIte, reduceCtorEq, false_or, or_false, itemsD_tup, itemsD_lst, itemsD_dic, exists_const, addP_int, addP_str, addP_tup, addP_lst, cmpP_int, intP_int, slD_tup, slD_lst, lenD_tup, lenD_lst, lenD_str, dEnterP, dPutTup]
        refine ⟨p, 7, rfl, rfl, by decide, fun kd a11 b11 => ?_⟩
        have hdl25 : dl.length < 1000 := by
          have := hL.cnt
          have := hL.lt
          omega
        have hls25 : ls.length < 64 := by
          have := hL.lt
          omega
        refine dSeq_cut (fun ρ (s2 : Option Addr × Cs) => s2.1 = some p ∧ ∃ lsX dlX rmX, LI fr fi (ts.length + 1) (fr + 1) dlX rmX lsX ∧ RD CDisk CRoom s2.2 A Bq (evict dlX rmX).1 (evict dlX rmX).2 ∧ s2.2 la = some (.dct (lsX.map pk)) ∧ ∃ x2 x4 x5 x6 x7 x8 x9 x10 x19 x20 x21 x22 x23 x24, ρ = [.d (.lst (ns.map .int)), .d (.raw (.ref p)), x2, .d (.raw (.ref A.a)), x4, x5, x6, x7, x8, x9, x10, .d (.int fr), .d (.int fi), .d (.raw (.ref Bq.a)), .d (.raw (.ref la)), .d (.lst (rmX.order.map .int)), .d (.lst (rmX.fresh.map .int)), .d (.int rmX.reads), .d (.int rmX.writes), x19, x20, x21, x22, x23, x24]) (fun TL hT => ?_) ?_
        · simp only [dWhile, dParDF, dParFD, dPar3, dMetS, dCallX, dRaise, dInDO, dIxDO, dLstRg, dTupRg, dCallHX, dRet, dRetN, dSeq, dIfS, dSet, dPar, dAug, dFor, dDrop, dDropM, dSetM, dSetF, fLst, fItems, mBm, dNewD, dPutO, dNext, dBreak, dCont, dAndV, dOrV, dNotV, dAnd, dOr, dNot, dB, dIf, dTup, dLst, dOp, dUn, dCallP, dCall, lfP, dCons, dNil, dVar, dC, dChain, dOpO, dCallO, dItems, dEnum, dRange1, dRange2, dLc, dLc2, dNoPart, dPart, dSl, dTru, gtName, gtTup, gtCons, gtNil, dYes, dGet, dGetO, dRevT, dRevL, lcBody, lcOut, lcIn, wipeD, dFld, dSetFld, dAugFld, dMeth, dMethX, dMake, dNewDc, dNewLc, dBmC, dOpC, dCallC, dSeqC, dIxC, dDGet, dDPut, dDDel, dDIn, dDGet2, dDPop2, dDLen, dDSort, dEqE, dSetIx, dSlC, dDictP, dLock, kAny, kKeys, dForK, dLcK, self_get, self_put, snd_get, snd_put, okV, okFst, okVX, List.map_cons, List.map_nil, List.cons_append, List.nil_append, List.length_cons, List.length_nil, Nat.reduceAdd, Nat.reduceSub, Nat.zero_add, Nat.sub_self, List.replicate_zero, List.replicate_succ, List.getElem?_cons_zero, List.getElem?_cons_succ, List.set_cons_zero, List.set_cons_succ, Option.some.injEq, Dv.Slot.d.injEq, Dv.Slot.own.injEq, Ob.lst.injEq, Ob.dic.injEq, exists_eq_left', exists_eq_left, exists_and_left, List.cons.injEq, and_true, true_and, and_assoc, D.raw.injEq, V.ty.injEq, D.bl.injEq, D.int.injEq, D.str.injEq, D.tup.injEq, D.lst.injEq, Bool.true_eq_false, Bool.false_eq_true, if_true, if_false, ite_true, ite_false, reduceIte, reduceCtorEq, false_or, or_false, itemsD_tup, itemsD_lst, itemsD_dic, exists_const, addP_int, addP_str, addP_tup, addP_lst, cmpP_int, intP_int, slD_tup, slD_lst, lenD_tup, lenD_lst, lenD_str, dEnterP, dPutTup]
          refine ⟨la, rfl, _, hla8, ?_⟩
          refine or_if (fun _ => ?_) (fun hne h3 => ?_)
          · have epg : fi + ((ls.map pk).length : Nat) = rm.first := by rw [List.length_map, hL.hfi]
            refine ⟨la, rfl, _, hla8, p, rfl, rfl, fun line hln => ⟨by omega, Bq.a, rfl, _, hR.r.i, rfl, A, Bq, dl, rm, rfl, hR, shp_int _ _, shp_int _ _, ?_⟩⟩
            rw [epg, ne_self]
            refine (if_neg (by decide)).mpr ⟨Bq.a, rfl, _, hR.r.i, rfl, A, Bq, dl, rm, line, rfl, hR, hL.riP (by omega) (by omega), by omega, hL.ok, hdl25, fun s9 hR9 hf9 => ⟨shp_int _ _, shp_int _ _, ?_⟩⟩
            rw [ne_self]
            have hla9 := (hf9 la oA oB).trans hla8
            obtain ⟨hL9, ho9⟩ := hL.put (line := line) hln
            have hlo := hL.oc
            have hlf := hL.cnt
            have hlt := hL.lt
            refine (if_neg (by decide)).mpr ⟨by omega, by rw [List.length_map]; omega, by omega, by rw [List.length_map]; omega, by omega, la, rfl, _, hla9, .inl rm.first, rfl, by rw [List.length_map]; omega, ?_⟩
            have eo : rm.order.map D.int ++ [D.int rm.first] = (keep1 { rm with first := rm.first + 1, fresh := rm.fresh ++ [rm.first] } rm.first line).order.map .int := by rw [ho9, List.map_append]; rfl
            have ef : rm.fresh.map D.int ++ [D.int rm.first] = (keep1 { rm with first := rm.first + 1, fresh := rm.fresh ++ [rm.first] } rm.first line).fresh.map .int := by
              show _ = (rm.fresh ++ [rm.first]).map D.int
              rw [List.map_append]
              rfl
            rw [eo, ef, putD_pk]
            exact hT _ _ ⟨rfl, _, dl, _, hL9, hR9.upd oA oB, updS_same, _, _, _, _, _, _, _, _, _, _, _, _, _, _, rfl⟩
          · by_cases h6 : kd < 6
            · rw [decide_eq_true h6]
              refine (if_pos rfl).mpr ⟨la, rfl, _, hla8, ls.map (·.1), pk_keys _, by rw [List.length_map]; omega, fun ys hy1 hy2 => ⟨p, _, rfl, rfl, ?_, fun x hx => ?_⟩⟩
              · intro z
                have := congrArg List.length z
                rw [List.length_map, hy1.length_eq, List.length_map] at this
                cases ls with
                | nil => exact hne rfl
                | cons a b => simp at this
              · obtain ⟨q, hq, rfl⟩ := List.mem_map.mp hx
                have hq2 := (getP_some ls q).mpr (hy1.mem_iff.mp hq)
                obtain ⟨l, hl⟩ := Option.isSome_iff_exists.mp hq2
                obtain ⟨rm', hg, hL9, ho9, hf9, hr9, hw9⟩ := hL.get hl
                have hl3 := hL.l3 q l hl
                refine ⟨shp_int _ _, shp_ints _, .inr ?_⟩
                have er : (if (!inD (.int q) (rm.order.map .int)) = true then (1 : Int) else 0) = if q ∈ rm.order then 0 else 1 := by
                  rw [inD_ints]
                  by_cases z : q ∈ rm.order <;> simp [z]
                rw [er]
                have hlo := hL.oc
                refine ⟨Bq.a, rfl, _, hR.r.i, rfl, A, Bq, dl, rm, q, l, rm', rfl, hR, hL.ri (by omega) (by omega), hL.ok, hdl25, hg, by omega, fun s9 hR9 hfr9 => ?_⟩
                have hla9 := (hfr9 la oA oB).trans hla8
                refine ⟨la, rfl, _, hla9, _, rfl, .inl q, rfl, lineD l, by rw [valD_pk, hl]; rfl, _, rfl, sm_line _, true, rfl, (if_neg (by decide)).mpr fun _ => ⟨by rw [List.length_map]; omega, ?_⟩⟩
                refine lc_filter (g := D.int) (fun x => decide (x ≠ q)) D.int (fun x hx K3 hK3 => ?_) ?_
                · simp only [dWhile, dParDF, dParFD, dPar3, dMetS, dCallX, dRaise, dInDO, dIxDO, dLstRg, dTupRg, dCallHX, dRet, dRetN, dSeq, dIfS, dSet, dPar, dAug, dFor, dDrop, dDropM, dSetM, dSetF, fLst, fItems, mBm, dNewD, dPutO, dNext, dBreak, dCont, dAndV, dOrV, dNotV, dAnd, dOr, dNot, dB, dIf, dTup, dLst, dOp, dUn, dCallP, dCall, lfP, dCons, dNil, dVar, dC, dChain, dOpO, dCallO, dItems, dEnum, dRange1, dRange2, dLc, dLc2, dNoPart, dPart, dSl, dTru, gtName, gtTup, gtCons, gtNil, dYes, dGet, dGetO, dRevT, dRevL, lcBody, lcOut, lcIn, wipeD, dFld, dSetFld, dAugFld, dMeth, dMethX, dMake, dNewDc, dNewLc, dBmC, dOpC, dCallC, dSeqC, dIxC, dDGet, dDPut, dDDel, dDIn, dDGet2, dDPop2, dDLen, dDSort, dEqE, dSetIx, dSlC, dDictP, dLock, kAny, kKeys, dForK, dLcK, self_get, self_put, snd_get, snd_put, okV, okFst, okVX, List.map_cons, List.map_nil, List.cons_append, List.nil_append, List.length_cons, List.length_nil, Nat.reduceAdd, Nat.reduceSub, Nat.zero_add, Nat.sub_self, List.replicate_zero, List.replicate_succ, List.getElem?_cons_zero, List.getElem?_cons_succ, List.set_cons_zero, List.set_cons_succ, Option.some.injEq, Dv.Slot.d.injEq, Dv.Slot.own.injEq, Ob.lst.injEq, Ob.dic.injEq, exists_eq_left', exists_eq_left, exists_and_left, List.cons.injEq, and_true, true_and, and_assoc, D.raw.injEq, V.ty.injEq, D.bl.injEq, D.int.injEq, D.str.injEq, D.tup.injEq, D.lst.injEq, Bool.true_eq_false, Bool.false_eq_true, if_true, if_false, ite_true, ite_false, reduceIte, reduceCtorEq, false_or, or_false, itemsD_tup, itemsD_lst, itemsD_dic, exists_const, addP_int, addP_str, addP_tup, addP_lst, cmpP_int, intP_int, slD_tup, slD_lst, lenD_tup, lenD_lst, lenD_str, dEnterP, dPutTup]
                  refine ⟨shp_int _ _, shp_int _ _, ?_⟩
                  rw [eqD_ints]
                  by_cases z : x = q
                  · simp only [z, ne_eq, not_true, decide_false, decide_true, Bool.not_true, Bool.false_eq_true, if_false] at hK3 ⊢
                    exact hK3
                  · simp only [z, ne_eq, not_false_eq_true, decide_false, decide_true, Bool.not_false, if_true] at hK3 ⊢
                    exact hK3
                · rw [List.nil_append]
                  have eo : (rm.order.filter fun x => decide (x ≠ q)).map D.int ++ [D.int q] = (keep1 rm' q l).order.map .int := by rw [ho9, List.map_append]; rfl
                  have hle := List.length_filter_le (fun x => decide (x ≠ q)) rm.order
                  refine ⟨by omega, by rw [List.length_map]; omega, ?_⟩
                  rw [eo, ← hf9, ← hr9, ← hw9]
                  exact hT _ _ ⟨rfl, _, dl, _, hL9, hR9, hla9, _, _, _, _, _, _, _, _, _, _, _, _, _, _, rfl⟩
            · rw [decide_eq_false h6]
              refine (if_neg Bool.false_ne_true).mpr ?_
              have hLf := hL.flush (by omega)
              have hlo := hL.oc
              have hcn := hL.cnt
              obtain ⟨ev, _⟩ := hLf.ev0 (by show ¬ fr < (rm.order.length : Int); omega)
              refine ⟨Bq.a, rfl, _, hR.r.i, rfl, A, Bq, dl, rm, rfl, hR, hL.ri (by omega) (by omega), hL.fo, hL.ok, by omega, fun s9 hR9 hfr9 _ => ⟨by omega, by omega, ?_⟩⟩
              have hla9 := (hfr9 la oA oB).trans hla8
              rw [List.length_map]
              exact hT _ _ ⟨rfl, ls, _, _, hLf.up (Nat.le_refl _) (by show (rm.order.length : Int) ≤ _; omega), by rw [ev]; exact hR9, hla9, _, _, _, _, _, _, _, _, _, _, _, _, _, _, rfl⟩
        · rintro ρ ⟨_, s9⟩ ⟨rfl, lsX, dlX, rmX, hLX, hRX, hla9, x2, x4, x5, x6, x7, x8, x9, x10, x19, x20, x21, x22, x23, x24, rfl⟩
          refine dSeq_cut (fun ρ (s2 : Option Addr × Cs) => s2.1 = some p ∧ ∃ lsX dlX rmX, ∃ os : List Int, LI fr fi (ts.length + 1) fr dlX rmX lsX ∧ RD CDisk CRoom s2.2 A Bq dlX rmX ∧ s2.2 la = some (.dct (lsX.map pk)) ∧ cutD (os.map .int) (some (if (os.length : Int) - fr > 0 then (os.length : Int) - fr else 0)) none = rmX.order.map .int ∧ os.length ≤ 100 ∧ ∃ x2 x4 x5 x6 x7 x8 x9 x10 x19 x20 x21 x22 x23 x24, ρ = [.d (.lst (ns.map .int)), .d (.raw (.ref p)), x2, .d (.raw (.ref A.a)), x4, x5, x6, x7, x8, x9, x10, .d (.int fr), .d (.int fi), .d (.raw (.ref Bq.a)), .d (.raw (.ref la)), .d (.lst (os.map .int)), .d (.lst (rmX.fresh.map .int)), .d (.int rmX.reads), .d (.int rmX.writes), x19, x20, x21, x22, x23, x24]) (fun TL hT => ?_) ?_
          · simp only [dWhile, dParDF, dParFD, dPar3, dMetS, dCallX, dRaise, dInDO, dIxDO, dLstRg, dTupRg, dCallHX, dRet, dRetN, dSeq, dIfS, dSet, dPar, dAug, dFor, dDrop, dDropM, dSetM, dSetF, fLst, fItems, mBm, dNewD, dPutO, dNext, dBreak, dCont, dAndV, dOrV, dNotV, dAnd, dOr, dNot, dB, dIf, dTup, dLst, dOp, dUn, dCallP, dCall, lfP, dCons, dNil, dVar, dC, dChain, dOpO, dCallO, dItems, dEnum, dRange1, dRange2, dLc, dLc2, dNoPart, dPart, dSl, dTru, gtName, gtTup, gtCons, gtNil, dYes, dGet, dGetO, dRevT, dRevL, lcBody, lcOut, lcIn, wipeD, dFld, dSetFld, dAugFld, dMeth, dMethX, dMake, dNewDc, dNewLc, dBmC, dOpC, dCallC, dSeqC, dIxC, dDGet, dDPut, dDDel, dDIn, dDGet2, dDPop2, dDLen, dDSort, dEqE, dSetIx, dSlC, dDictP, dLock, kAny, kKeys, dForK, dLcK, self_get, self_put, snd_get, snd_put, okV, okFst, okVX, List.map_cons, List.map_nil, List.cons_append, List.nil_append, List.length_cons, List.length_nil, Nat.reduceAdd, Nat.reduceSub, Nat.zero_add, Nat.sub_self, List.replicate_zero, List.replicate_succ, List.getElem?_cons_zero, List.getElem?_cons_succ, List.set_cons_zero, List.set_cons_succ, Option.some.injEq, Dv.Slot.d.injEq, Dv.Slot.own.injEq, Ob.lst.injEq, Ob.dic.injEq, exists_eq_left', exists_eq_left, exists_and_left, List.cons.injEq, and_true, true_and, and_assoc, D.raw.injEq, V.ty.injEq, D.bl.injEq, D.int.injEq, D.str.injEq, D.tup.injEq, D.lst.injEq, Bool.true_eq_false, Bool.false_eq_true, if_true, if_false, ite_true, ite_false, reduceIte, reduceCtorEq, false_or, or_false, itemsD_tup, itemsD_lst, itemsD_dic, exists_const, addP_int, addP_str, addP_tup, addP_lst, cmpP_int, intP_int, slD_tup, slD_lst, lenD_tup, lenD_lst, lenD_str, dEnterP, dPutTup]
            intro _ _
            rw [List.length_map]
            have hlo := hLX.oc
            by_cases hev : fr < (rmX.order.length : Int)
            · obtain ⟨gn, rest, eo⟩ : ∃ g r, rmX.order = g :: r := by
                cases e : rmX.order with
                | nil => rw [e] at hev; simp at hev; omega
                | cons a b => exact ⟨a, b, rfl⟩
              obtain ⟨hrl, hEo, hEf, hEr, hEw, hLE⟩ := hLX.ev1 eo hev (by omega)
              have e1 : (rmX.order.length : Int) - fr = ((1 : Nat) : Int) := by rw [eo, List.length_cons]; push_cast; omega
              rw [if_pos (by omega), e1, cutM_to]
              have e2 : (rmX.order.take 1).map D.int = [D.int gn] := by rw [eo]; rfl
              rw [e2]
              have hcn := hLX.cnt
              have hlt := hLX.lt
              simp only [forGo]
              simp only [dWhile, dParDF, dParFD, dPar3, dMetS, dCallX, dRaise, dInDO, dIxDO, dLstRg, dTupRg, dCallHX, dRet, dRetN, dSeq, dIfS, dSet, dPar, dAug, dFor, dDrop, dDropM, dSetM, dSetF, fLst, fItems, mBm, dNewD, dPutO, dNext, dBreak, dCont, dAndV, dOrV, dNotV, dAnd, dOr, dNot, dB, dIf, dTup, dLst, dOp, dUn, dCallP, dCall, lfP, dCons, dNil, dVar, dC, dChain, dOpO, dCallO, dItems, dEnum, dRange1, dRange2, dLc, dLc2, dNoPart, dPart, dSl, dTru, gtName, gtTup, gtCons, gtNil, dYes, dGet, dGetO, dRevT, dRevL, lcBody, lcOut, lcIn, wipeD, dFld, dSetFld, dAugFld, dMeth, dMethX, dMake, dNewDc, dNewLc, dBmC, dOpC, dCallC, dSeqC, dIxC, dDGet, dDPut, dDDel, dDIn, dDGet2, dDPop2, dDLen, dDSort, dEqE, dSetIx, dSlC, dDictP, dLock, kAny, kKeys, dForK, dLcK, self_get, self_put, snd_get, snd_put, okV, okFst, okVX, List.map_cons, List.map_nil, List.cons_append, List.nil_append, List.length_cons, List.length_nil, Nat.reduceAdd, Nat.reduceSub, Nat.zero_add, Nat.sub_self, List.replicate_zero, List.replicate_succ, List.getElem?_cons_zero, List.getElem?_cons_succ, List.set_cons_zero, List.set_cons_succ, Option.some.injEq, Dv.Slot.d.injEq, Dv.Slot.own.injEq, Ob.lst.injEq, Ob.dic.injEq, exists_eq_left', exists_eq_left, exists_and_left, List.cons.injEq, and_true, true_and, and_assoc, D.raw.injEq, V.ty.injEq, D.bl.injEq, D.int.injEq, D.str.injEq, D.tup.injEq, D.lst.injEq, Bool.true_eq_false, Bool.false_eq_true, if_true, if_false, ite_true, ite_false, reduceIte, reduceCtorEq, false_or, or_false, itemsD_tup, itemsD_lst, itemsD_dic, exists_const, addP_int, addP_str, addP_tup, addP_lst, cmpP_int, intP_int, slD_tup, slD_lst, lenD_tup, lenD_lst, lenD_str, dEnterP, dPutTup]
              refine ⟨shp_int _ _, shp_ints _, .inr fun _ => ⟨by rw [List.length_map]; omega, ?_⟩⟩
              refine lc_filter (g := D.int) (fun x => decide (x ≠ gn)) D.int (fun x hx K3 hK3 => ?_) ?_
              · simp only [dWhile, dParDF, dParFD, dPar3, dMetS, dCallX, dRaise, dInDO, dIxDO, dLstRg, dTupRg, dCallHX, dRet, dRetN, dSeq, dIfS, dSet, dPar, dAug, dFor, dDrop, dDropM, dSetM, dSetF, fLst, fItems, mBm, dNewD, dPutO, dNext, dBreak, dCont, dAndV, dOrV, dNotV, dAnd, dOr, dNot, dB, dIf, dTup, dLst, dOp, dUn, dCallP, dCall, lfP, dCons, dNil, dVar, dC, dChain, dOpO, dCallO, dItems, dEnum, dRange1, dRange2, dLc, dLc2, dNoPart, dPart, dSl, dTru, gtName, gtTup, gtCons, gtNil, dYes, dGet, dGetO, dRevT, dRevL, lcBody, lcOut, lcIn, wipeD, dFld, dSetFld, dAugFld, dMeth, dMethX, dMake, dNewDc, dNewLc, dBmC, dOpC, dCallC, dSeqC, dIxC, dDGet, dDPut, dDDel, dDIn, dDGet2, dDPop2, dDLen, dDSort, dEqE, dSetIx, dSlC, dDictP, dLock, kAny, kKeys, dForK, dLcK, self_get, self_put, snd_get, snd_put, okV, okFst, okVX, List.map_cons, List.map_nil, List.cons_append, List.nil_append, List.length_cons, List.length_nil, Nat.reduceAdd, Nat.reduceSub, Nat.zero_add, Nat.sub_self, List.replicate_zero, List.replicate_succ, List.getElem?_cons_zero, List.getElem?_cons_succ, List.set_cons_zero, List.set_cons_succ, Option.some.injEq, Dv.Slot.d.injEq, Dv.Slot.own.injEq, Ob.lst.injEq, Ob.dic.injEq, exists_eq_left', exists_eq_left, exists_and_left, List.cons.injEq, and_true, true_and, and_assoc, D.raw.injEq, V.ty.injEq, D.bl.injEq, D.int.injEq, D.str.injEq, D.tup.injEq, D.lst.injEq, Bool.true_eq_false, Bool.false_eq_true, if_true, if_false, ite_true, ite_false, reduceIte, reduceCtorEq, false_or, or_false, itemsD_tup, itemsD_lst, itemsD_dic, exists_const, addP_int, addP_str, addP_tup, addP_lst, cmpP_int, intP_int, slD_tup, slD_lst, lenD_tup, lenD_lst, lenD_str, dEnterP, dPutTup]
                refine ⟨shp_int _ _, shp_int _ _, ?_⟩
                rw [eqD_ints]
                by_cases z : x = gn
                · simp only [z, ne_eq, not_true, decide_false, decide_true, Bool.not_true, Bool.false_eq_true, if_false] at hK3 ⊢
                  exact hK3
                · simp only [z, ne_eq, not_false_eq_true, decide_false, decide_true, Bool.not_false, if_true] at hK3 ⊢
                  exact hK3
              · rw [List.nil_append]
                have ew : (if inD (.int gn) (rmX.fresh.map .int) = true then (1 : Int) else 0) = if gn ∈ rmX.fresh then 1 else 0 := by
                  rw [inD_ints]
                  by_cases z : gn ∈ rmX.fresh <;> simp [z]
                rw [ew, ← hEf, ← hEr, ← hEw]
                refine hT _ _ ⟨rfl, lsX, _, _, rmX.order, hLE, hRX, hla9, ?_, by omega, _, _, _, _, _, _, _, _, _, _, _, _, _, _, rfl⟩
                rw [if_pos (by omega), e1, hEo, eo, cutD, HT.sIx_none, HT.sIx_nat]
                show List.take _ (List.drop (min 1 (List.map D.int (gn :: rest)).length) (List.map D.int (gn :: rest))) = _
                rw [List.map_cons, List.length_cons, Nat.min_eq_left (by omega)]
                show List.take _ (List.map D.int rest) = _
                rw [List.take_of_length_le (by omega)]
            · obtain ⟨ev, hL0⟩ := hLX.ev0 hev
              rw [if_neg (by omega), show (0 : Int) = ((0 : Nat) : Int) from rfl, cutM_to]
              show TL _ _
              rw [ev] at hRX
              refine hT _ _ ⟨rfl, lsX, dlX, rmX, rmX.order, hL0, hRX, hla9, ?_, by omega, _, _, _, _, _, _, _, _, _, _, _, _, _, _, rfl⟩
              rw [if_neg (by omega), show (0 : Int) = ((0 : Nat) : Int) from rfl, cutD, HT.sIx_none, HT.sIx_nat, Nat.zero_min, List.drop_zero, Nat.sub_zero, List.take_length]
          · rintro ρ ⟨_, s10⟩ ⟨rfl, lsY, dlY, rmY, os, hLY, hRY, hla10, hos, hosl, x2, x4, x5, x6, x7, x8, x9, x10, x19, x20, x21, x22, x23, x24, rfl⟩
            have hcn := hLY.cnt
            have hlt := hLY.lt
            simp only [dWhile, dParDF, dParFD, dPar3, dMetS, dCallX, dRaise, dInDO, dIxDO, dLstRg, dTupRg, dCallHX, dRet, dRetN, dSeq, dIfS, dSet, dPar, dAug, dFor, dDrop, dDropM, dSetM, dSetF, fLst, fItems, mBm, dNewD, dPutO, dNext, dBreak, dCont, dAndV, dOrV, dNotV, dAnd, dOr, dNot, dB, dIf, dTup, dLst, dOp, dUn, dCallP, dCall, lfP, dCons, dNil, dVar, dC, dChain, dOpO, dCallO, dItems, dEnum, dRange1, dRange2, dLc, dLc2, dNoPart, dPart, dSl, dTru, gtName, gtTup, gtCons, gtNil, dYes, dGet, dGetO, dRevT, dRevL, lcBody, lcOut, lcIn, wipeD, dFld, dSetFld, dAugFld, dMeth, dMethX, dMake, dNewDc, dNewLc, dBmC, dOpC, dCallC, dSeqC, dIxC, dDGet, dDPut, dDDel, dDIn, dDGet2, dDPop2, dDLen, dDSort, dEqE, dSetIx, dSlC, dDictP, dLock, kAny, kKeys, dForK, dLcK, self_get, self_put, snd_get, snd_put, okV, okFst, okVX, List.map_cons, List.map_nil, List.cons_append, List.nil_append, List.length_cons, List.length_nil, Nat.reduceAdd, Nat.reduceSub, Nat.zero_add, Nat.sub_self, List.replicate_zero, List.replicate_succ, List.getElem?_cons_zero, List.getElem?_cons_succ, List.set_cons_zero, List.set_cons_succ, Option.some.injEq, Dv.Slot.d.injEq, Dv.Slot.own.injEq, Ob.lst.injEq, Ob.dic.injEq, exists_eq_left', exists_eq_left, exists_and_left, List.cons.injEq, and_true, true_and, and_assoc, D.raw.injEq, V.ty.injEq, D.bl.injEq, D.int.injEq, D.str.injEq, D.tup.injEq, D.lst.injEq, Bool.true_eq_false, Bool.false_eq_true, if_true, if_false, ite_true, ite_false, reduceIte, reduceCtorEq, false_or, or_false, itemsD_tup, itemsD_lst, itemsD_dic, exists_const, addP_int, addP_str, addP_tup, addP_lst, cmpP_int, intP_int, slD_tup, slD_lst, lenD_tup, lenD_lst, lenD_str, dEnterP, dPutTup]
            simp only [List.length_map, hos]
            refine fun _ => ⟨la, rfl, _, hla10, lsY.map (·.1), pk_keys _, by rw [List.length_map]; omega, fun ys y1 y2 hz => ⟨hz, ?_⟩⟩
            refine lc_filter (g := D.int) (fun x => !decide (x ∈ rmY.fresh)) D.int (fun x hx K3 hK3 => ?_) ?_
            · simp only [dWhile, dParDF, dParFD, dPar3, dMetS, dCallX, dRaise, dInDO, dIxDO, dLstRg, dTupRg, dCallHX, dRet, dRetN, dSeq, dIfS, dSet, dPar, dAug, dFor, dDrop, dDropM, dSetM, dSetF, fLst, fItems, mBm, dNewD, dPutO, dNext, dBreak, dCont, dAndV, dOrV, dNotV, dAnd, dOr, dNot, dB, dIf, dTup, dLst, dOp, dUn, dCallP, dCall, lfP, dCons, dNil, dVar, dC, dChain, dOpO, dCallO, dItems, dEnum, dRange1, dRange2, dLc, dLc2, dNoPart, dPart, dSl, dTru, gtName, gtTup, gtCons, gtNil, dYes, dGet, dGetO, dRevT, dRevL, lcBody, lcOut, lcIn, wipeD, dFld, dSetFld, dAugFld, dMeth, dMethX, dMake, dNewDc, dNewLc, dBmC, dOpC, dCallC, dSeqC, dIxC, dDGet, dDPut, dDDel, dDIn, dDGet2, dDPop2, dDLen, dDSort, dEqE, dSetIx, dSlC, dDictP, dLock, kAny, kKeys, dForK, dLcK, self_get, self_put, snd_get, snd_put, okV, okFst, okVX, List.map_cons, List.map_nil, List.cons_append, List.nil_append, List.length_cons, List.length_nil, Nat.reduceAdd, Nat.reduceSub, Nat.zero_add, Nat.sub_self, List.replicate_zero, List.replicate_succ, List.getElem?_cons_zero, List.getElem?_cons_succ, List.set_cons_zero, List.set_cons_succ, Option.some.injEq, Dv.Slot.d.injEq, Dv.Slot.own.injEq, Ob.lst.injEq, Ob.dic.injEq, exists_eq_left', exists_eq_left, exists_and_left, List.cons.injEq, and_true, true_and, and_assoc, D.raw.injEq, V.ty.injEq, D.bl.injEq, D.int.injEq, D.str.injEq, D.tup.injEq, D.lst.injEq, Bool.true_eq_false, Bool.false_eq_true, if_true, if_false, ite_true, ite_false, reduceIte, reduceCtorEq, false_or, or_false, itemsD_tup, itemsD_lst, itemsD_dic, exists_const, addP_int, addP_str, addP_tup, addP_lst, cmpP_int, intP_int, slD_tup, slD_lst, lenD_tup, lenD_lst, lenD_str, dEnterP, dPutTup]
              refine ⟨shp_int _ _, shp_ints _, ?_⟩
              rw [inD_ints]
              by_cases z : x ∈ rmY.fresh
              · simp only [z, decide_true, Bool.not_true, Bool.false_eq_true, if_false] at hK3 ⊢
                exact hK3
              · simp only [z, decide_false, Bool.not_false, if_true] at hK3 ⊢
                exact hK3
            · rw [List.nil_append]
              refine ⟨Bq.a, rfl, _, hRY.r.i, rfl, A, Bq, dlY, rmY, rfl, hRY, shp_tints _, shp_tints _, ?_⟩
              rw [ne_tints]
              refine (if_neg (by decide)).mpr ⟨Bq.a, rfl, _, hRY.r.i, _, gr_reads _ _, shp_int _ _, shp_int _ _, ?_⟩
              rw [ne_self]
              refine (if_neg (by decide)).mpr ⟨Bq.a, rfl, _, hRY.r.i, _, gr_writes _ _, shp_int _ _, shp_int _ _, ?_⟩
              rw [ne_self]
              refine (if_neg (by decide)).mpr ⟨A.a, rfl, _, hRY.d.o, rfl, A, dlY, rfl, hRY.d, hLY.ok, by omega, fun zs z1 z2 => ?_⟩
              have ez := hLY.written y1 y2 z1 z2
              rw [ez]
              refine ⟨shp_tints _, shp_tints _, ?_⟩
              rw [ne_tints]
              refine (if_neg (by decide)).mpr (hK2 _ _ ⟨rfl, lsY, dlY, rmY, by rw [List.length_append, List.length_singleton]; exact hLY, hRY, hla10, _, _, _, _, _, _, _, _, _, _, _, _, _, _, rfl⟩)
      · obtain ⟨hs2, ls, dl, rm, _, _, _, x2, x4, x5, x6, x7, x8, x9, x10, x19, x20, x21, x22, x23, x24, rfl⟩ := hh
        exact hK1 _ _ ⟨hs2, _, _, _, _, _, _, _, _, _, _, _, _, _, _, _, _, _, _, _, _, _, _, _, rfl⟩

end
end K15

set_option Elab.async false
set_option linter.all false
set_option maxRecDepth 100000
set_option maxHeartbeats 4000000
namespace K15
open PySem L2 PyProof.Rows Dv Bg
theorem rpa_of_ints {c : Cn} {H : Hp} : ∀ ns : List Int, RpA c H (ns.map V.int) (ns.map D.int)
  | [] => .nil
  | n :: ns => .cons (.int n) (rpa_of_ints ns)

theorem all_mk {l : PySem.W.OpenLaw} {w : World} {K : PySem.W.Frag} {h : Heap} {mg : Str → Option Value} {fa : Addr} (X : K.In h) (G : h.Ns mainGlobals mg) (hfa : mg "law" = some (.ref fa))
    {od0 an0 : Option Addr} {sl0 : Array (Option Value)} {oc0 kV0 dc0 pm0 cd0 ct0 : Value} {f0 : Addr} (a0 : PySem.W.nsIn K mainGlobals "fallen" = some (some (.ref f0))) (l0 : K.lookup f0 = some ⟨oc0, od0, .func (PySem.W.fnOf "fallen" "fallen" (defArgs s_fallen) (defBody s_fallen) (defScope s_fallen) .none kV0 dc0 pm0 an0 cd0 ct0), sl0⟩) (c0 : PySem.W.codeIn K cd0 "fallen" = true) (k0 : PySem.W.keepIn K (.ref f0) = true)
    {od1 an1 : Option Addr} {sl1 : Array (Option Value)} {oc1 kV1 dc1 pm1 cd1 ct1 : Value} {f1 : Addr} (a1 : PySem.W.nsIn K mainGlobals "_law_same" = some (some (.ref f1))) (l1 : K.lookup f1 = some ⟨oc1, od1, .func (PySem.W.fnOf "_law_same" "_law_same" (defArgs s__law_same) (defBody s__law_same) (defScope s__law_same) .none kV1 dc1 pm1 an1 cd1 ct1), sl1⟩) (c1 : PySem.W.codeIn K cd1 "_law_same" = true) (k1 : PySem.W.keepIn K (.ref f1) = true)
    {od2 an2 : Option Addr} {sl2 : Array (Option Value)} {oc2 kV2 dc2 pm2 cd2 ct2 : Value} {f2 : Addr} (a2 : PySem.W.nsIn K mainGlobals "_law_draws" = some (some (.ref f2))) (l2 : K.lookup f2 = some ⟨oc2, od2, .func (PySem.W.fnOf "_law_draws" "_law_draws" (defArgs s__law_draws) (defBody s__law_draws) (defScope s__law_draws) .none kV2 dc2 pm2 an2 cd2 ct2), sl2⟩) (c2 : PySem.W.codeIn K cd2 "_law_draws" = true) (k2 : PySem.W.keepIn K (.ref f2) = true)
    {od3 an3 : Option Addr} {sl3 : Array (Option Value)} {oc3 kV3 dc3 pm3 cd3 ct3 : Value} {f3 : Addr} (a3 : PySem.W.nsIn K mainGlobals "_law_next" = some (some (.ref f3))) (l3 : K.lookup f3 = some ⟨oc3, od3, .func (PySem.W.fnOf "_law_next" "_law_next" (defArgs s__law_next) (defBody s__law_next) (defScope s__law_next) .none kV3 dc3 pm3 an3 cd3 ct3), sl3⟩) (c3 : PySem.W.codeIn K cd3 "_law_next" = true) (k3 : PySem.W.keepIn K (.ref f3) = true)
    {od4 an4 : Option Addr} {sl4 : Array (Option Value)} {oc4 kV4 dc4 pm4 cd4 ct4 : Value} {f4 : Addr} (a4 : PySem.W.nsIn K mainGlobals "_law_pick" = some (some (.ref f4))) (l4 : K.lookup f4 = some ⟨oc4, od4, .func (PySem.W.fnOf "_law_pick" "_law_pick" (defArgs s__law_pick) (defBody s__law_pick) (defScope s__law_pick) .none kV4 dc4 pm4 an4 cd4 ct4), sl4⟩) (c4 : PySem.W.codeIn K cd4 "_law_pick" = true) (k4 : PySem.W.keepIn K (.ref f4) = true)
    {od5 an5 : Option Addr} {sl5 : Array (Option Value)} {oc5 kV5 dc5 pm5 cd5 ct5 : Value} {f5 : Addr} (a5 : PySem.W.nsIn K mainGlobals "_law_line" = some (some (.ref f5))) (l5 : K.lookup f5 = some ⟨oc5, od5, .func (PySem.W.fnOf "_law_line" "_law_line" (defArgs s__law_line) (defBody s__law_line) (defScope s__law_line) .none kV5 dc5 pm5 an5 cd5 ct5), sl5⟩) (c5 : PySem.W.codeIn K cd5 "_law_line" = true) (k5 : PySem.W.keepIn K (.ref f5) = true)
    {od6 an6 : Option Addr} {sl6 : Array (Option Value)} {oc6 kV6 dc6 pm6 cd6 ct6 : Value} {f6 : Addr} (a6 : PySem.W.nsIn K mainGlobals "_law_done" = some (some (.ref f6))) (l6 : K.lookup f6 = some ⟨oc6, od6, .func (PySem.W.fnOf "_law_done" "_law_done" (defArgs s__law_done) (defBody s__law_done) (defScope s__law_done) .none kV6 dc6 pm6 an6 cd6 ct6), sl6⟩) (c6 : PySem.W.codeIn K cd6 "_law_done" = true) (k6 : PySem.W.keepIn K (.ref f6) = true)
    {od7 an7 : Option Addr} {sl7 : Array (Option Value)} {oc7 kV7 dc7 pm7 cd7 ct7 : Value} {f7 : Addr} (a7 : PySem.W.nsIn K mainGlobals "_law_read" = some (some (.ref f7))) (l7 : K.lookup f7 = some ⟨oc7, od7, .func (PySem.W.fnOf "_law_read" "_law_read" (defArgs s__law_read) (defBody s__law_read) (defScope s__law_read) .none kV7 dc7 pm7 an7 cd7 ct7), sl7⟩) (c7 : PySem.W.codeIn K cd7 "_law_read" = true) (k7 : PySem.W.keepIn K (.ref f7) = true)
    {od8 an8 : Option Addr} {sl8 : Array (Option Value)} {oc8 kV8 dc8 pm8 cd8 ct8 : Value} {f8 : Addr} (a8 : PySem.W.nsIn K mainGlobals "_law_is_disk" = some (some (.ref f8))) (l8 : K.lookup f8 = some ⟨oc8, od8, .func (PySem.W.fnOf "_law_is_disk" "_law_is_disk" (defArgs s__law_is_disk) (defBody s__law_is_disk) (defScope s__law_is_disk) .none kV8 dc8 pm8 an8 cd8 ct8), sl8⟩) (c8 : PySem.W.codeIn K cd8 "_law_is_disk" = true) (k8 : PySem.W.keepIn K (.ref f8) = true)
    {od9 an9 : Option Addr} {sl9 : Array (Option Value)} {oc9 kV9 dc9 pm9 cd9 ct9 : Value} {f9 : Addr} (a9 : PySem.W.nsIn K mainGlobals "_law_do" = some (some (.ref f9))) (l9 : K.lookup f9 = some ⟨oc9, od9, .func (PySem.W.fnOf "_law_do" "_law_do" (defArgs s__law_do) (defBody s__law_do) (defScope s__law_do) .none kV9 dc9 pm9 an9 cd9 ct9), sl9⟩) (c9 : PySem.W.codeIn K cd9 "_law_do" = true) (k9 : PySem.W.keepIn K (.ref f9) = true)
    {od10 an10 : Option Addr} {sl10 : Array (Option Value)} {oc10 kV10 dc10 pm10 cd10 ct10 : Value} {f10 : Addr} (a10 : PySem.W.nsIn K mainGlobals "law" = some (some (.ref f10))) (l10 : K.lookup f10 = some ⟨oc10, od10, .func (PySem.W.fnOf "law" "law" (defArgs s_law) (defBody s_law) (defScope s_law) .none kV10 dc10 pm10 an10 cd10 ct10), sl10⟩) (c10 : PySem.W.codeIn K cd10 "law" = true) (k10 : PySem.W.keepIn K (.ref f10) = true)
    {CDisk : Addr} (aCDisk : PySem.W.nsIn K mainGlobals "Disk" = some (some (.ref CDisk))) (pgq0 : PySem.W.plainGet K CDisk Str.empty = true) (hdq0 : PySem.W.hasDictIn K CDisk = true) (poq0 : PySem.W.plainOver K CDisk = true) (saq0 : PySem.W.findIn K (.ref CDisk) "__setattr__" = some (some (.builtin "object.__setattr__"))) (mkq0 : PySem.W.makesIn K CDisk = true) (kcq0 : PySem.W.keepIn K (.ref CDisk) = true)
    (nq0_0 : PySem.W.findIn K (.ref CDisk) "lines" = some none)
    (nq0_1 : PySem.W.findIn K (.ref CDisk) "logged" = some none)
    (nq0_2 : PySem.W.findIn K (.ref CDisk) "roots" = some none)
    (nq0_3 : PySem.W.findIn K (.ref CDisk) "done" = some none)
    {odq0_0 anq0_0 : Option Addr} {slq0_0 : Array (Option Value)} {ocq0_0 kVq0_0 dcq0_0 pmq0_0 cdq0_0 ctq0_0 : Value} {fq0_0 : Addr} (aq0_0 : PySem.W.findIn K (.ref CDisk) "__init__" = some (some (.ref fq0_0))) (iq0_0 : PySem.W.isFn K (.ref fq0_0) = true) (lq0_0 : K.lookup fq0_0 = some ⟨ocq0_0, odq0_0, .func (PySem.W.fnOf "__init__" "Disk.__init__" (defArgs s_Disk___init__) (defBody s_Disk___init__) (defScope s_Disk___init__) .none kVq0_0 dcq0_0 pmq0_0 anq0_0 cdq0_0 ctq0_0), slq0_0⟩) (cq0_0 : PySem.W.codeIn K cdq0_0 "Disk.__init__" = true) (kq0_0 : PySem.W.keepIn K (.ref fq0_0) = true)
    {odq0_1 anq0_1 : Option Addr} {slq0_1 : Array (Option Value)} {ocq0_1 kVq0_1 dcq0_1 pmq0_1 cdq0_1 ctq0_1 : Value} {fq0_1 : Addr} (aq0_1 : PySem.W.findIn K (.ref CDisk) "write" = some (some (.ref fq0_1))) (iq0_1 : PySem.W.isFn K (.ref fq0_1) = true) (lq0_1 : K.lookup fq0_1 = some ⟨ocq0_1, odq0_1, .func (PySem.W.fnOf "write" "Disk.write" (defArgs s_Disk_write) (defBody s_Disk_write) (defScope s_Disk_write) .none kVq0_1 dcq0_1 pmq0_1 anq0_1 cdq0_1 ctq0_1), slq0_1⟩) (cq0_1 : PySem.W.codeIn K cdq0_1 "Disk.write" = true) (kq0_1 : PySem.W.keepIn K (.ref fq0_1) = true)
    {odq0_2 anq0_2 : Option Addr} {slq0_2 : Array (Option Value)} {ocq0_2 kVq0_2 dcq0_2 pmq0_2 cdq0_2 ctq0_2 : Value} {fq0_2 : Addr} (aq0_2 : PySem.W.findIn K (.ref CDisk) "read" = some (some (.ref fq0_2))) (iq0_2 : PySem.W.isFn K (.ref fq0_2) = true) (lq0_2 : K.lookup fq0_2 = some ⟨ocq0_2, odq0_2, .func (PySem.W.fnOf "read" "Disk.read" (defArgs s_Disk_read) (defBody s_Disk_read) (defScope s_Disk_read) .none kVq0_2 dcq0_2 pmq0_2 anq0_2 cdq0_2 ctq0_2), slq0_2⟩) (cq0_2 : PySem.W.codeIn K cdq0_2 "Disk.read" = true) (kq0_2 : PySem.W.keepIn K (.ref fq0_2) = true)
    {odq0_3 anq0_3 : Option Addr} {slq0_3 : Array (Option Value)} {ocq0_3 kVq0_3 dcq0_3 pmq0_3 cdq0_3 ctq0_3 : Value} {fq0_3 : Addr} (aq0_3 : PySem.W.findIn K (.ref CDisk) "free" = some (some (.ref fq0_3))) (iq0_3 : PySem.W.isFn K (.ref fq0_3) = true) (lq0_3 : K.lookup fq0_3 = some ⟨ocq0_3, odq0_3, .func (PySem.W.fnOf "free" "Disk.free" (defArgs s_Disk_free) (defBody s_Disk_free) (defScope s_Disk_free) .none kVq0_3 dcq0_3 pmq0_3 anq0_3 cdq0_3 ctq0_3), slq0_3⟩) (cq0_3 : PySem.W.codeIn K cdq0_3 "Disk.free" = true) (kq0_3 : PySem.W.keepIn K (.ref fq0_3) = true)
    {odq0_4 anq0_4 : Option Addr} {slq0_4 : Array (Option Value)} {ocq0_4 kVq0_4 dcq0_4 pmq0_4 cdq0_4 ctq0_4 : Value} {fq0_4 : Addr} (aq0_4 : PySem.W.findIn K (.ref CDisk) "append" = some (some (.ref fq0_4))) (iq0_4 : PySem.W.isFn K (.ref fq0_4) = true) (lq0_4 : K.lookup fq0_4 = some ⟨ocq0_4, odq0_4, .func (PySem.W.fnOf "append" "Disk.append" (defArgs s_Disk_append) (defBody s_Disk_append) (defScope s_Disk_append) .none kVq0_4 dcq0_4 pmq0_4 anq0_4 cdq0_4 ctq0_4), slq0_4⟩) (cq0_4 : PySem.W.codeIn K cdq0_4 "Disk.append" = true) (kq0_4 : PySem.W.keepIn K (.ref fq0_4) = true)
    {odq0_5 anq0_5 : Option Addr} {slq0_5 : Array (Option Value)} {ocq0_5 kVq0_5 dcq0_5 pmq0_5 cdq0_5 ctq0_5 : Value} {fq0_5 : Addr} (aq0_5 : PySem.W.findIn K (.ref CDisk) "keep_log" = some (some (.ref fq0_5))) (iq0_5 : PySem.W.isFn K (.ref fq0_5) = true) (lq0_5 : K.lookup fq0_5 = some ⟨ocq0_5, odq0_5, .func (PySem.W.fnOf "keep_log" "Disk.keep_log" (defArgs s_Disk_keep_log) (defBody s_Disk_keep_log) (defScope s_Disk_keep_log) .none kVq0_5 dcq0_5 pmq0_5 anq0_5 cdq0_5 ctq0_5), slq0_5⟩) (cq0_5 : PySem.W.codeIn K cdq0_5 "Disk.keep_log" = true) (kq0_5 : PySem.W.keepIn K (.ref fq0_5) = true)
    {odq0_6 anq0_6 : Option Addr} {slq0_6 : Array (Option Value)} {ocq0_6 kVq0_6 dcq0_6 pmq0_6 cdq0_6 ctq0_6 : Value} {fq0_6 : Addr} (aq0_6 : PySem.W.findIn K (.ref CDisk) "set_root" = some (some (.ref fq0_6))) (iq0_6 : PySem.W.isFn K (.ref fq0_6) = true) (lq0_6 : K.lookup fq0_6 = some ⟨ocq0_6, odq0_6, .func (PySem.W.fnOf "set_root" "Disk.set_root" (defArgs s_Disk_set_root) (defBody s_Disk_set_root) (defScope s_Disk_set_root) .none kVq0_6 dcq0_6 pmq0_6 anq0_6 cdq0_6 ctq0_6), slq0_6⟩) (cq0_6 : PySem.W.codeIn K cdq0_6 "Disk.set_root" = true) (kq0_6 : PySem.W.keepIn K (.ref fq0_6) = true)
    {odq0_7 anq0_7 : Option Addr} {slq0_7 : Array (Option Value)} {ocq0_7 kVq0_7 dcq0_7 pmq0_7 cdq0_7 ctq0_7 : Value} {fq0_7 : Addr} (aq0_7 : PySem.W.findIn K (.ref CDisk) "root" = some (some (.ref fq0_7))) (iq0_7 : PySem.W.isFn K (.ref fq0_7) = true) (lq0_7 : K.lookup fq0_7 = some ⟨ocq0_7, odq0_7, .func (PySem.W.fnOf "root" "Disk.root" (defArgs s_Disk_root) (defBody s_Disk_root) (defScope s_Disk_root) .none kVq0_7 dcq0_7 pmq0_7 anq0_7 cdq0_7 ctq0_7), slq0_7⟩) (cq0_7 : PySem.W.codeIn K cdq0_7 "Disk.root" = true) (kq0_7 : PySem.W.keepIn K (.ref fq0_7) = true)
    {odq0_8 anq0_8 : Option Addr} {slq0_8 : Array (Option Value)} {ocq0_8 kVq0_8 dcq0_8 pmq0_8 cdq0_8 ctq0_8 : Value} {fq0_8 : Addr} (aq0_8 : PySem.W.findIn K (.ref CDisk) "log" = some (some (.ref fq0_8))) (iq0_8 : PySem.W.isFn K (.ref fq0_8) = true) (lq0_8 : K.lookup fq0_8 = some ⟨ocq0_8, odq0_8, .func (PySem.W.fnOf "log" "Disk.log" (defArgs s_Disk_log) (defBody s_Disk_log) (defScope s_Disk_log) .none kVq0_8 dcq0_8 pmq0_8 anq0_8 cdq0_8 ctq0_8), slq0_8⟩) (cq0_8 : PySem.W.codeIn K cdq0_8 "Disk.log" = true) (kq0_8 : PySem.W.keepIn K (.ref fq0_8) = true)
    {odq0_9 anq0_9 : Option Addr} {slq0_9 : Array (Option Value)} {ocq0_9 kVq0_9 dcq0_9 pmq0_9 cdq0_9 ctq0_9 : Value} {fq0_9 : Addr} (aq0_9 : PySem.W.findIn K (.ref CDisk) "pages" = some (some (.ref fq0_9))) (iq0_9 : PySem.W.isFn K (.ref fq0_9) = true) (lq0_9 : K.lookup fq0_9 = some ⟨ocq0_9, odq0_9, .func (PySem.W.fnOf "pages" "Disk.pages" (defArgs s_Disk_pages) (defBody s_Disk_pages) (defScope s_Disk_pages) .none kVq0_9 dcq0_9 pmq0_9 anq0_9 cdq0_9 ctq0_9), slq0_9⟩) (cq0_9 : PySem.W.codeIn K cdq0_9 "Disk.pages" = true) (kq0_9 : PySem.W.keepIn K (.ref fq0_9) = true)
    {odq0_10 anq0_10 : Option Addr} {slq0_10 : Array (Option Value)} {ocq0_10 kVq0_10 dcq0_10 pmq0_10 cdq0_10 ctq0_10 : Value} {fq0_10 : Addr} (aq0_10 : PySem.W.findIn K (.ref CDisk) "deeds" = some (some (.ref fq0_10))) (iq0_10 : PySem.W.isFn K (.ref fq0_10) = true) (lq0_10 : K.lookup fq0_10 = some ⟨ocq0_10, odq0_10, .func (PySem.W.fnOf "deeds" "Disk.deeds" (defArgs s_Disk_deeds) (defBody s_Disk_deeds) (defScope s_Disk_deeds) .none kVq0_10 dcq0_10 pmq0_10 anq0_10 cdq0_10 ctq0_10), slq0_10⟩) (cq0_10 : PySem.W.codeIn K cdq0_10 "Disk.deeds" = true) (kq0_10 : PySem.W.keepIn K (.ref fq0_10) = true)
    {odq0_11 anq0_11 : Option Addr} {slq0_11 : Array (Option Value)} {ocq0_11 kVq0_11 dcq0_11 pmq0_11 cdq0_11 ctq0_11 : Value} {fq0_11 : Addr} (aq0_11 : PySem.W.findIn K (.ref CDisk) "do" = some (some (.ref fq0_11))) (iq0_11 : PySem.W.isFn K (.ref fq0_11) = true) (lq0_11 : K.lookup fq0_11 = some ⟨ocq0_11, odq0_11, .func (PySem.W.fnOf "do" "Disk.do" (defArgs s_Disk_do) (defBody s_Disk_do) (defScope s_Disk_do) .none kVq0_11 dcq0_11 pmq0_11 anq0_11 cdq0_11 ctq0_11), slq0_11⟩) (cq0_11 : PySem.W.codeIn K cdq0_11 "Disk.do" = true) (kq0_11 : PySem.W.keepIn K (.ref fq0_11) = true)
    {CRoom : Addr} (aCRoom : PySem.W.nsIn K mainGlobals "Room" = some (some (.ref CRoom))) (pgq1 : PySem.W.plainGet K CRoom Str.empty = true) (hdq1 : PySem.W.hasDictIn K CRoom = true) (poq1 : PySem.W.plainOver K CRoom = true) (saq1 : PySem.W.findIn K (.ref CRoom) "__setattr__" = some (some (.builtin "object.__setattr__"))) (mkq1 : PySem.W.makesIn K CRoom = true) (kcq1 : PySem.W.keepIn K (.ref CRoom) = true)
    (nq1_0 : PySem.W.findIn K (.ref CRoom) "disk" = some none)
    (nq1_1 : PySem.W.findIn K (.ref CRoom) "frames" = some none)
    (nq1_2 : PySem.W.findIn K (.ref CRoom) "first" = some none)
    (nq1_3 : PySem.W.findIn K (.ref CRoom) "lines" = some none)
    (nq1_4 : PySem.W.findIn K (.ref CRoom) "order" = some none)
    (nq1_5 : PySem.W.findIn K (.ref CRoom) "fresh" = some none)
    (nq1_6 : PySem.W.findIn K (.ref CRoom) "reads" = some none)
    (nq1_7 : PySem.W.findIn K (.ref CRoom) "writes" = some none)
    {odq1_0 anq1_0 : Option Addr} {slq1_0 : Array (Option Value)} {ocq1_0 kVq1_0 dcq1_0 pmq1_0 cdq1_0 ctq1_0 : Value} {fq1_0 : Addr} (aq1_0 : PySem.W.findIn K (.ref CRoom) "__init__" = some (some (.ref fq1_0))) (iq1_0 : PySem.W.isFn K (.ref fq1_0) = true) (lq1_0 : K.lookup fq1_0 = some ⟨ocq1_0, odq1_0, .func (PySem.W.fnOf "__init__" "Room.__init__" (defArgs s_Room___init__) (defBody s_Room___init__) (defScope s_Room___init__) .none kVq1_0 dcq1_0 pmq1_0 anq1_0 cdq1_0 ctq1_0), slq1_0⟩) (cq1_0 : PySem.W.codeIn K cdq1_0 "Room.__init__" = true) (kq1_0 : PySem.W.keepIn K (.ref fq1_0) = true)
    {odq1_1 anq1_1 : Option Addr} {slq1_1 : Array (Option Value)} {ocq1_1 kVq1_1 dcq1_1 pmq1_1 cdq1_1 ctq1_1 : Value} {fq1_1 : Addr} (aq1_1 : PySem.W.findIn K (.ref CRoom) "next_page" = some (some (.ref fq1_1))) (iq1_1 : PySem.W.isFn K (.ref fq1_1) = true) (lq1_1 : K.lookup fq1_1 = some ⟨ocq1_1, odq1_1, .func (PySem.W.fnOf "next_page" "Room.next_page" (defArgs s_Room_next_page) (defBody s_Room_next_page) (defScope s_Room_next_page) .none kVq1_1 dcq1_1 pmq1_1 anq1_1 cdq1_1 ctq1_1), slq1_1⟩) (cq1_1 : PySem.W.codeIn K cdq1_1 "Room.next_page" = true) (kq1_1 : PySem.W.keepIn K (.ref fq1_1) = true)
    {odq1_2 anq1_2 : Option Addr} {slq1_2 : Array (Option Value)} {ocq1_2 kVq1_2 dcq1_2 pmq1_2 cdq1_2 ctq1_2 : Value} {fq1_2 : Addr} (aq1_2 : PySem.W.findIn K (.ref CRoom) "held" = some (some (.ref fq1_2))) (iq1_2 : PySem.W.isFn K (.ref fq1_2) = true) (lq1_2 : K.lookup fq1_2 = some ⟨ocq1_2, odq1_2, .func (PySem.W.fnOf "held" "Room.held" (defArgs s_Room_held) (defBody s_Room_held) (defScope s_Room_held) .none kVq1_2 dcq1_2 pmq1_2 anq1_2 cdq1_2 ctq1_2), slq1_2⟩) (cq1_2 : PySem.W.codeIn K cdq1_2 "Room.held" = true) (kq1_2 : PySem.W.keepIn K (.ref fq1_2) = true)
    {odq1_3 anq1_3 : Option Addr} {slq1_3 : Array (Option Value)} {ocq1_3 kVq1_3 dcq1_3 pmq1_3 cdq1_3 ctq1_3 : Value} {fq1_3 : Addr} (aq1_3 : PySem.W.findIn K (.ref CRoom) "save" = some (some (.ref fq1_3))) (iq1_3 : PySem.W.isFn K (.ref fq1_3) = true) (lq1_3 : K.lookup fq1_3 = some ⟨ocq1_3, odq1_3, .func (PySem.W.fnOf "save" "Room.save" (defArgs s_Room_save) (defBody s_Room_save) (defScope s_Room_save) .none kVq1_3 dcq1_3 pmq1_3 anq1_3 cdq1_3 ctq1_3), slq1_3⟩) (cq1_3 : PySem.W.codeIn K cdq1_3 "Room.save" = true) (kq1_3 : PySem.W.keepIn K (.ref fq1_3) = true)
    {odq1_4 anq1_4 : Option Addr} {slq1_4 : Array (Option Value)} {ocq1_4 kVq1_4 dcq1_4 pmq1_4 cdq1_4 ctq1_4 : Value} {fq1_4 : Addr} (aq1_4 : PySem.W.findIn K (.ref CRoom) "keep" = some (some (.ref fq1_4))) (iq1_4 : PySem.W.isFn K (.ref fq1_4) = true) (lq1_4 : K.lookup fq1_4 = some ⟨ocq1_4, odq1_4, .func (PySem.W.fnOf "keep" "Room.keep" (defArgs s_Room_keep) (defBody s_Room_keep) (defScope s_Room_keep) .none kVq1_4 dcq1_4 pmq1_4 anq1_4 cdq1_4 ctq1_4), slq1_4⟩) (cq1_4 : PySem.W.codeIn K cdq1_4 "Room.keep" = true) (kq1_4 : PySem.W.keepIn K (.ref fq1_4) = true)
    {odq1_5 anq1_5 : Option Addr} {slq1_5 : Array (Option Value)} {ocq1_5 kVq1_5 dcq1_5 pmq1_5 cdq1_5 ctq1_5 : Value} {fq1_5 : Addr} (aq1_5 : PySem.W.findIn K (.ref CRoom) "get" = some (some (.ref fq1_5))) (iq1_5 : PySem.W.isFn K (.ref fq1_5) = true) (lq1_5 : K.lookup fq1_5 = some ⟨ocq1_5, odq1_5, .func (PySem.W.fnOf "get" "Room.get" (defArgs s_Room_get) (defBody s_Room_get) (defScope s_Room_get) .none kVq1_5 dcq1_5 pmq1_5 anq1_5 cdq1_5 ctq1_5), slq1_5⟩) (cq1_5 : PySem.W.codeIn K cdq1_5 "Room.get" = true) (kq1_5 : PySem.W.keepIn K (.ref fq1_5) = true)
    {odq1_6 anq1_6 : Option Addr} {slq1_6 : Array (Option Value)} {ocq1_6 kVq1_6 dcq1_6 pmq1_6 cdq1_6 ctq1_6 : Value} {fq1_6 : Addr} (aq1_6 : PySem.W.findIn K (.ref CRoom) "put" = some (some (.ref fq1_6))) (iq1_6 : PySem.W.isFn K (.ref fq1_6) = true) (lq1_6 : K.lookup fq1_6 = some ⟨ocq1_6, odq1_6, .func (PySem.W.fnOf "put" "Room.put" (defArgs s_Room_put) (defBody s_Room_put) (defScope s_Room_put) .none kVq1_6 dcq1_6 pmq1_6 anq1_6 cdq1_6 ctq1_6), slq1_6⟩) (cq1_6 : PySem.W.codeIn K cdq1_6 "Room.put" = true) (kq1_6 : PySem.W.keepIn K (.ref fq1_6) = true)
    {odq1_7 anq1_7 : Option Addr} {slq1_7 : Array (Option Value)} {ocq1_7 kVq1_7 dcq1_7 pmq1_7 cdq1_7 ctq1_7 : Value} {fq1_7 : Addr} (aq1_7 : PySem.W.findIn K (.ref CRoom) "flush" = some (some (.ref fq1_7))) (iq1_7 : PySem.W.isFn K (.ref fq1_7) = true) (lq1_7 : K.lookup fq1_7 = some ⟨ocq1_7, odq1_7, .func (PySem.W.fnOf "flush" "Room.flush" (defArgs s_Room_flush) (defBody s_Room_flush) (defScope s_Room_flush) .none kVq1_7 dcq1_7 pmq1_7 anq1_7 cdq1_7 ctq1_7), slq1_7⟩) (cq1_7 : PySem.W.codeIn K cdq1_7 "Room.flush" = true) (kq1_7 : PySem.W.keepIn K (.ref fq1_7) = true)
    (z_int : PySem.W.nsIn K mainGlobals "int" = some none)
    (z_str : PySem.W.nsIn K mainGlobals "str" = some none)
    (z_bool : PySem.W.nsIn K mainGlobals "bool" = some none)
    (z_tuple : PySem.W.nsIn K mainGlobals "tuple" = some none)
    (z_list : PySem.W.nsIn K mainGlobals "list" = some none)
    (z_dict : PySem.W.nsIn K mainGlobals "dict" = some none)
    (z_isinstance : PySem.W.nsIn K mainGlobals "isinstance" = some none)
    (z_len : PySem.W.nsIn K mainGlobals "len" = some none)
    (z_all : PySem.W.nsIn K mainGlobals "all" = some none)
    (z_sorted : PySem.W.nsIn K mainGlobals "sorted" = some none)
    (z_max : PySem.W.nsIn K mainGlobals "max" = some none)
    (z_min : PySem.W.nsIn K mainGlobals "min" = some none)
    (z_abs : PySem.W.nsIn K mainGlobals "abs" = some none)
    (z_range : PySem.W.nsIn K mainGlobals "range" = some none)
    (z_enumerate : PySem.W.nsIn K mainGlobals "enumerate" = some none)
    (z_any : PySem.W.nsIn K mainGlobals "any" = some none)
    (z_sum : PySem.W.nsIn K mainGlobals "sum" = some none)
    (z_set : PySem.W.nsIn K mainGlobals "set" = some none)
    (z_zip : PySem.W.nsIn K mainGlobals "zip" = some none)
    {CB CS : Addr}
    (aB : PySem.W.nsIn K mainGlobals "BadRow" = some (some (.ref CB)))
    (aS : PySem.W.nsIn K mainGlobals "StoreError" = some (some (.ref CS)))
    (xB : PySem.W.excIn K CB [.type "ValueError", .type "Exception", .type "BaseException", .type "object"] "ValueError.__new__" = true)
    (kB : PySem.W.keepIn K (.ref CB) = true)
    (bB : PySem.W.subIn K (.ref CB) (.type "BaseException") = some true)
    (tB : PySem.W.typeIn K (.ref CB) = some (.type "type"))
    (bS : PySem.W.subIn K (.ref CS) (.type "BaseException") = some true)
    (dS : PySem.W.hasDictIn K CS = true)
    (tS : PySem.W.typeIn K (.ref CS) = some (.type "type"))
    (sBS : PySem.W.subIn K (.ref CB) (.ref CS) = some true)
    (qB : PySem.W.kitOne K (.ref CB) (.ref CB) = some true)
    (g1 : PySem.W.findIn K (.ref CB) "__getattribute__" = some (some (.builtin "BaseException.__getattribute__")))
    (g2 : PySem.W.findIn K (.ref CB) "__getattr__" = some none)
    (g4 : PySem.W.hasDictIn K CB = true)
    (g5 : PySem.W.findIn K (.ref CB) "__class__" = some (some (.builtin "object.__class__")))
    (g6 : PySem.W.specialIn K (.builtin "object.__class__") "__get__" = some (some (.builtin "getset_descriptor.__get__")))
    (g7 : PySem.W.takesIn K (.builtin "object.__class__") = some true)
    (g8 : PySem.W.mroIn K CB (.type "object") = some true) :
    ∃ fd : FuncData, (∀ (s : Shared) (v : Value), BindsTo s fd ⟨[v], []⟩ [("script", v)]) ∧ ∀ base : Heap, K.In base → base.Ns mainGlobals mg → FnOk l.prog w K mg base CX0 20 fa fd ["script"] (spD ⟨l.prog, w, K⟩ (Wp (Wd K) (Wc ⟨l.prog, w, K⟩)) 1 (o_law (P := l.prog) (w := w) (K := K))) := by
  have e := hfa.symm.trans (PySem.W.mg_of X G a10)
  cases e
  have T : Bn mg := ⟨PySem.W.mg_none_of X G z_int, PySem.W.mg_none_of X G z_str, PySem.W.mg_none_of X G z_bool, PySem.W.mg_none_of X G z_tuple, PySem.W.mg_none_of X G z_list, PySem.W.mg_none_of X G z_dict, PySem.W.mg_none_of X G z_isinstance, PySem.W.mg_none_of X G z_len, PySem.W.mg_none_of X G z_all, PySem.W.mg_none_of X G z_sorted, PySem.W.mg_none_of X G z_max, PySem.W.mg_none_of X G z_min, PySem.W.mg_none_of X G z_abs, PySem.W.mg_none_of X G z_range, PySem.W.mg_none_of X G z_enumerate, PySem.W.mg_none_of X G z_any, PySem.W.mg_none_of X G z_sum, PySem.W.mg_none_of X G z_set, PySem.W.mg_none_of X G z_zip⟩
  have F0 := fun_mk (st := s_fallen) l0 c0 k0
  have D_fallen : Def K mg "fallen" s_fallen ["deeds", "many", "signs"] := ⟨_, _, F0, PySem.W.mg_of X G a0, F0.binds (ps := ["deeds", "many", "signs"]) fun _ _ _ _ _ _ us hl => match us, hl with | [_, _, _], _ => rfl⟩
  have F1 := fun_mk (st := s__law_same) l1 c1 k1
  have D__law_same : Def K mg "_law_same" s__law_same ["seen", "due"] := ⟨_, _, F1, PySem.W.mg_of X G a1, F1.binds (ps := ["seen", "due"]) fun _ _ _ _ _ _ us hl => match us, hl with | [_, _], _ => rfl⟩
  have F2 := fun_mk (st := s__law_draws) l2 c2 k2
  have D__law_draws : Def K mg "_law_draws" s__law_draws ["script", "many"] := ⟨_, _, F2, PySem.W.mg_of X G a2, F2.binds (ps := ["script", "many"]) fun _ _ _ _ _ _ us hl => match us, hl with | [_, _], _ => rfl⟩
  have F3 := fun_mk (st := s__law_next) l3 c3 k3
  have D__law_next : Def K mg "_law_next" s__law_next ["w", "many"] := ⟨_, _, F3, PySem.W.mg_of X G a3, F3.binds (ps := ["w", "many"]) fun _ _ _ _ _ _ us hl => match us, hl with | [_, _], _ => rfl⟩
  have F4 := fun_mk (st := s__law_pick) l4 c4 k4
  have D__law_pick : Def K mg "_law_pick" s__law_pick ["w", "rows"] := ⟨_, _, F4, PySem.W.mg_of X G a4, F4.binds (ps := ["w", "rows"]) fun _ _ _ _ _ _ us hl => match us, hl with | [_, _], _ => rfl⟩
  have F5 := fun_mk (st := s__law_line) l5 c5 k5
  have D__law_line : Def K mg "_law_line" s__law_line ["w"] := ⟨_, _, F5, PySem.W.mg_of X G a5, F5.binds (ps := ["w"]) fun _ _ _ _ _ _ us hl => match us, hl with | [_], _ => rfl⟩
  have F6 := fun_mk (st := s__law_done) l6 c6 k6
  have D__law_done : Def K mg "_law_done" s__law_done ["deeds"] := ⟨_, _, F6, PySem.W.mg_of X G a6, F6.binds (ps := ["deeds"]) fun _ _ _ _ _ _ us hl => match us, hl with | [_], _ => rfl⟩
  have F7 := fun_mk (st := s__law_read) l7 c7 k7
  have D__law_read : Def K mg "_law_read" s__law_read ["disk", "page"] := ⟨_, _, F7, PySem.W.mg_of X G a7, F7.binds (ps := ["disk", "page"]) fun _ _ _ _ _ _ us hl => match us, hl with | [_, _], _ => rfl⟩
  have F8 := fun_mk (st := s__law_is_disk) l8 c8 k8
  have D__law_is_disk : Def K mg "_law_is_disk" s__law_is_disk ["disk", "deeds"] := ⟨_, _, F8, PySem.W.mg_of X G a8, F8.binds (ps := ["disk", "deeds"]) fun _ _ _ _ _ _ us hl => match us, hl with | [_, _], _ => rfl⟩
  have F9 := fun_mk (st := s__law_do) l9 c9 k9
  have D__law_do : Def K mg "_law_do" s__law_do ["disk", "deed"] := ⟨_, _, F9, PySem.W.mg_of X G a9, F9.binds (ps := ["disk", "deed"]) fun _ _ _ _ _ _ us hl => match us, hl with | [_, _], _ => rfl⟩
  have F_Disk : ClF K CDisk fs_Disk := ⟨⟨pgq0, hdq0, poq0, saq0⟩, fun f hf => by
    simp only [fs_Disk, List.mem_cons, List.not_mem_nil, or_false] at hf
    rcases hf with rfl | rfl | rfl | rfl
    · exact nq0_0
    · exact nq0_1
    · exact nq0_2
    · exact nq0_3⟩
  have Fq0_0 := fun_mk (st := s_Disk___init__) lq0_0 cq0_0 kq0_0
  have D_Disk___init__ : KDef K mg "Disk" CDisk "Disk.__init__" s_Disk___init__ ["self"] := ⟨_, _, Fq0_0, ⟨mkq0, aq0_0, iq0_0, kcq0⟩, PySem.W.mg_of X G aCDisk, Fq0_0.binds (ps := ["self"]) fun _ _ _ _ _ _ us hl => match us, hl with | [_], _ => rfl⟩
  have Fq0_1 := fun_mk (st := s_Disk_write) lq0_1 cq0_1 kq0_1
  have D_Disk_write : MDef K CDisk "write" "Disk.write" s_Disk_write ["self", "page", "line"] := ⟨_, _, Fq0_1, ⟨aq0_1, iq0_1, kq0_1⟩, Fq0_1.binds (ps := ["self", "page", "line"]) fun _ _ _ _ _ _ us hl => match us, hl with | [_, _, _], _ => rfl⟩
  have Fq0_2 := fun_mk (st := s_Disk_read) lq0_2 cq0_2 kq0_2
  have D_Disk_read : MDef K CDisk "read" "Disk.read" s_Disk_read ["self", "page"] := ⟨_, _, Fq0_2, ⟨aq0_2, iq0_2, kq0_2⟩, Fq0_2.binds (ps := ["self", "page"]) fun _ _ _ _ _ _ us hl => match us, hl with | [_, _], _ => rfl⟩
  have Fq0_3 := fun_mk (st := s_Disk_free) lq0_3 cq0_3 kq0_3
  have D_Disk_free : MDef K CDisk "free" "Disk.free" s_Disk_free ["self", "pages"] := ⟨_, _, Fq0_3, ⟨aq0_3, iq0_3, kq0_3⟩, Fq0_3.binds (ps := ["self", "pages"]) fun _ _ _ _ _ _ us hl => match us, hl with | [_, _], _ => rfl⟩
  have Fq0_4 := fun_mk (st := s_Disk_append) lq0_4 cq0_4 kq0_4
  have D_Disk_append : MDef K CDisk "append" "Disk.append" s_Disk_append ["self", "line"] := ⟨_, _, Fq0_4, ⟨aq0_4, iq0_4, kq0_4⟩, Fq0_4.binds (ps := ["self", "line"]) fun _ _ _ _ _ _ us hl => match us, hl with | [_, _], _ => rfl⟩
  have Fq0_5 := fun_mk (st := s_Disk_keep_log) lq0_5 cq0_5 kq0_5
  have D_Disk_keep_log : MDef K CDisk "keep_log" "Disk.keep_log" s_Disk_keep_log ["self", "many"] := ⟨_, _, Fq0_5, ⟨aq0_5, iq0_5, kq0_5⟩, Fq0_5.binds (ps := ["self", "many"]) fun _ _ _ _ _ _ us hl => match us, hl with | [_, _], _ => rfl⟩
  have Fq0_6 := fun_mk (st := s_Disk_set_root) lq0_6 cq0_6 kq0_6
  have D_Disk_set_root : MDef K CDisk "set_root" "Disk.set_root" s_Disk_set_root ["self", "slot", "line"] := ⟨_, _, Fq0_6, ⟨aq0_6, iq0_6, kq0_6⟩, Fq0_6.binds (ps := ["self", "slot", "line"]) fun _ _ _ _ _ _ us hl => match us, hl with | [_, _, _], _ => rfl⟩
  have Fq0_7 := fun_mk (st := s_Disk_root) lq0_7 cq0_7 kq0_7
  have D_Disk_root : MDef K CDisk "root" "Disk.root" s_Disk_root ["self", "slot"] := ⟨_, _, Fq0_7, ⟨aq0_7, iq0_7, kq0_7⟩, Fq0_7.binds (ps := ["self", "slot"]) fun _ _ _ _ _ _ us hl => match us, hl with | [_, _], _ => rfl⟩
  have Fq0_8 := fun_mk (st := s_Disk_log) lq0_8 cq0_8 kq0_8
  have D_Disk_log : MDef K CDisk "log" "Disk.log" s_Disk_log ["self"] := ⟨_, _, Fq0_8, ⟨aq0_8, iq0_8, kq0_8⟩, Fq0_8.binds (ps := ["self"]) fun _ _ _ _ _ _ us hl => match us, hl with | [_], _ => rfl⟩
  have Fq0_9 := fun_mk (st := s_Disk_pages) lq0_9 cq0_9 kq0_9
  have D_Disk_pages : MDef K CDisk "pages" "Disk.pages" s_Disk_pages ["self"] := ⟨_, _, Fq0_9, ⟨aq0_9, iq0_9, kq0_9⟩, Fq0_9.binds (ps := ["self"]) fun _ _ _ _ _ _ us hl => match us, hl with | [_], _ => rfl⟩
  have Fq0_10 := fun_mk (st := s_Disk_deeds) lq0_10 cq0_10 kq0_10
  have D_Disk_deeds : MDef K CDisk "deeds" "Disk.deeds" s_Disk_deeds ["self"] := ⟨_, _, Fq0_10, ⟨aq0_10, iq0_10, kq0_10⟩, Fq0_10.binds (ps := ["self"]) fun _ _ _ _ _ _ us hl => match us, hl with | [_], _ => rfl⟩
  have Fq0_11 := fun_mk (st := s_Disk_do) lq0_11 cq0_11 kq0_11
  have D_Disk_do : MDef K CDisk "do" "Disk.do" s_Disk_do ["self", "deed"] := ⟨_, _, Fq0_11, ⟨aq0_11, iq0_11, kq0_11⟩, Fq0_11.binds (ps := ["self", "deed"]) fun _ _ _ _ _ _ us hl => match us, hl with | [_, _], _ => rfl⟩
  have F_Room : ClF K CRoom fs_Room := ⟨⟨pgq1, hdq1, poq1, saq1⟩, fun f hf => by
    simp only [fs_Room, List.mem_cons, List.not_mem_nil, or_false] at hf
    rcases hf with rfl | rfl | rfl | rfl | rfl | rfl | rfl | rfl
    · exact nq1_0
    · exact nq1_1
    · exact nq1_2
    · exact nq1_3
    · exact nq1_4
    · exact nq1_5
    · exact nq1_6
    · exact nq1_7⟩
  have Fq1_0 := fun_mk (st := s_Room___init__) lq1_0 cq1_0 kq1_0
  have D_Room___init__ : KDef K mg "Room" CRoom "Room.__init__" s_Room___init__ ["self", "disk", "frames", "first"] := ⟨_, _, Fq1_0, ⟨mkq1, aq1_0, iq1_0, kcq1⟩, PySem.W.mg_of X G aCRoom, Fq1_0.binds (ps := ["self", "disk", "frames", "first"]) fun _ _ _ _ _ _ us hl => match us, hl with | [_, _, _, _], _ => rfl⟩
  have Fq1_1 := fun_mk (st := s_Room_next_page) lq1_1 cq1_1 kq1_1
  have D_Room_next_page : MDef K CRoom "next_page" "Room.next_page" s_Room_next_page ["self"] := ⟨_, _, Fq1_1, ⟨aq1_1, iq1_1, kq1_1⟩, Fq1_1.binds (ps := ["self"]) fun _ _ _ _ _ _ us hl => match us, hl with | [_], _ => rfl⟩
  have Fq1_2 := fun_mk (st := s_Room_held) lq1_2 cq1_2 kq1_2
  have D_Room_held : MDef K CRoom "held" "Room.held" s_Room_held ["self"] := ⟨_, _, Fq1_2, ⟨aq1_2, iq1_2, kq1_2⟩, Fq1_2.binds (ps := ["self"]) fun _ _ _ _ _ _ us hl => match us, hl with | [_], _ => rfl⟩
  have Fq1_3 := fun_mk (st := s_Room_save) lq1_3 cq1_3 kq1_3
  have D_Room_save : MDef K CRoom "save" "Room.save" s_Room_save ["self", "page"] := ⟨_, _, Fq1_3, ⟨aq1_3, iq1_3, kq1_3⟩, Fq1_3.binds (ps := ["self", "page"]) fun _ _ _ _ _ _ us hl => match us, hl with | [_, _], _ => rfl⟩
  have Fq1_4 := fun_mk (st := s_Room_keep) lq1_4 cq1_4 kq1_4
  have D_Room_keep : MDef K CRoom "keep" "Room.keep" s_Room_keep ["self", "page", "line"] := ⟨_, _, Fq1_4, ⟨aq1_4, iq1_4, kq1_4⟩, Fq1_4.binds (ps := ["self", "page", "line"]) fun _ _ _ _ _ _ us hl => match us, hl with | [_, _, _], _ => rfl⟩
  have Fq1_5 := fun_mk (st := s_Room_get) lq1_5 cq1_5 kq1_5
  have D_Room_get : MDef K CRoom "get" "Room.get" s_Room_get ["self", "page"] := ⟨_, _, Fq1_5, ⟨aq1_5, iq1_5, kq1_5⟩, Fq1_5.binds (ps := ["self", "page"]) fun _ _ _ _ _ _ us hl => match us, hl with | [_, _], _ => rfl⟩
  have Fq1_6 := fun_mk (st := s_Room_put) lq1_6 cq1_6 kq1_6
  have D_Room_put : MDef K CRoom "put" "Room.put" s_Room_put ["self", "line"] := ⟨_, _, Fq1_6, ⟨aq1_6, iq1_6, kq1_6⟩, Fq1_6.binds (ps := ["self", "line"]) fun _ _ _ _ _ _ us hl => match us, hl with | [_, _], _ => rfl⟩
  have Fq1_7 := fun_mk (st := s_Room_flush) lq1_7 cq1_7 kq1_7
  have D_Room_flush : MDef K CRoom "flush" "Room.flush" s_Room_flush ["self"] := ⟨_, _, Fq1_7, ⟨aq1_7, iq1_7, kq1_7⟩, Fq1_7.binds (ps := ["self"]) fun _ _ _ _ _ _ us hl => match us, hl with | [_], _ => rfl⟩
  have TB : BadC K mg "BadRow" CB := ⟨PySem.W.mg_of X G aB, xB, kB, bB, tB⟩
  have TC : TryC K mg CB CS := ⟨PySem.W.exm_ref bS dS tS sBS, qB, ⟨g1, g2, bB, g4, g5, g6, g7, g8⟩, PySem.W.mg_of X G aB, PySem.W.mg_of X G aS⟩
  refine ⟨PySem.W.fnOf "law" "law" (defArgs s_law) (defBody s_law) (defScope s_law) .none kV10 dc10 pm10 an10 cd10 ct10, fun s v => .of_eq rfl, fun base _ _ => ?_⟩
  have K_Disk := ok_Disk___init__ (P := l.prog) (w := w) (base := base) T F_Disk D_Disk___init__
  have M_Disk_write := ok_Disk_write (P := l.prog) (w := w) (base := base) T F_Disk D_Disk_write
  have M_Disk_append := ok_Disk_append (P := l.prog) (w := w) (base := base) T F_Disk D_Disk_append
  have M_Disk_keep_log := ok_Disk_keep_log (P := l.prog) (w := w) (base := base) T F_Disk D_Disk_keep_log
  have M_Disk_set_root := ok_Disk_set_root (P := l.prog) (w := w) (base := base) T F_Disk D_Disk_set_root
  have M_Disk_free := ok_Disk_free (P := l.prog) (w := w) (base := base) T F_Disk D_Disk_free
  have M_Disk_log := ok_Disk_log (P := l.prog) (w := w) (base := base) T F_Disk D_Disk_log
  have M_Disk_root := ok_Disk_root (P := l.prog) (w := w) (base := base) T F_Disk D_Disk_root
  have M_Disk_deeds := ok_Disk_deeds (P := l.prog) (w := w) (base := base) T F_Disk D_Disk_deeds
  have M_Disk_pages := ok_Disk_pages (P := l.prog) (w := w) (base := base) T F_Disk D_Disk_pages
  have M_Disk_readX := ok_Disk_read (P := l.prog) (w := w) (base := base) T F_Disk D_Disk_read TB
  have M_Disk_read := ok_Disk_read_1 (P := l.prog) (w := w) (base := base) T F_Disk D_Disk_read TB
  have M_Disk_do := ok_Disk_do (P := l.prog) (w := w) (base := base) T F_Disk D_Disk_do M_Disk_write M_Disk_append M_Disk_set_root M_Disk_keep_log M_Disk_free
  have C_fallen := okC_fallen (P := l.prog) (w := w) (base := base) T F_Disk D_fallen K_Disk M_Disk_do M_Disk_append M_Disk_set_root
  have M_Room_save := ok_Room_save (P := l.prog) (w := w) (base := base) T F_Disk F_Room D_Room_save M_Disk_write
  have M_Room_keep := ok_Room_keep (P := l.prog) (w := w) (base := base) T F_Disk F_Room D_Room_keep M_Room_save
  have M_Room_next_page := ok_Room_next_page (P := l.prog) (w := w) (base := base) T F_Disk F_Room D_Room_next_page
  have M_Room_held := ok_Room_held (P := l.prog) (w := w) (base := base) T F_Disk F_Room D_Room_held
  have M_Room_put := ok_Room_put (P := l.prog) (w := w) (base := base) T F_Disk F_Room D_Room_put M_Room_keep
  have M_Room_get := ok_Room_get (P := l.prog) (w := w) (base := base) T F_Disk F_Room D_Room_get M_Disk_read M_Room_keep
  have M_Room_flush := ok_Room_flush (P := l.prog) (w := w) (base := base) T F_Disk F_Room D_Room_flush M_Room_save
  have K_Room := ok_Room___init__ (P := l.prog) (w := w) (base := base) T F_Disk F_Room D_Room___init__
  have C_done := ok_done (P := l.prog) (w := w) (base := base) T D__law_done
  have C__law_do := ok_do (P := l.prog) (w := w) (base := base) T F_Disk D__law_do M_Disk_write M_Disk_append M_Disk_set_root M_Disk_keep_log M_Disk_free
  have C_read := ok_readL (P := l.prog) (w := w) (base := base) T TC F_Disk D__law_read M_Disk_readX
  have C__law_same := ok__law_same (P := l.prog) (w := w) (base := base) T D__law_same
  have C__law_draws := ok__law_draws (P := l.prog) (w := w) (base := base) T D__law_draws
  have C__law_next := ok__law_next (P := l.prog) (w := w) (base := base) T D__law_next
  have C__law_pick := ok__law_pick (P := l.prog) (w := w) (base := base) T D__law_pick C__law_next
  have C__law_line := ok__law_line (P := l.prog) (w := w) (base := base) T D__law_line C__law_next
  have C__law_is_disk := ok_isd (P := l.prog) (w := w) (base := base) T F_Disk D__law_is_disk M_Disk_pages M_Disk_log M_Disk_root C__law_same C_done C_read
  exact ok_law T F_Disk F_Room (fun_mk (st := s_law) l10 c10 k10) M_Disk_deeds M_Disk_pages M_Room_next_page M_Room_held M_Room_put M_Room_get M_Room_flush K_Disk K_Room C__law_do C__law_is_disk C_fallen C__law_next C__law_pick C__law_line C__law_same C__law_draws
theorem walk {l : PySem.W.OpenLaw} {q : Program} {loose : List Str} {XP : (Str → Option Value) → Heap → Prop} {YP : World → Heap → Prop} {d : DefRec} {K : Params → PySem.W.Frag} (hn : l.most = some 63) (hdf : d.params.defaults = [])
    (hY : ∀ (w : World) (h : Heap), YP w h → (K w.params).In h)
    (F : ∀ (w : World) (mg : Str → Option Value) (fa : Addr) (h : Heap), (K w.params).In h → h.Ns mainGlobals mg → mg d.name = some (.ref fa) →
      ∃ fd : FuncData, (∀ (s : Shared) (u : Value), BindsTo s fd ⟨[u], []⟩ [("script", u)]) ∧ ∀ base : Heap, (K w.params).In base → base.Ns mainGlobals mg → FnOk l.prog w (K w.params) mg base CX0 20 fa fd ["script"] (spD ⟨l.prog, w, (K w.params)⟩ (Wp (Wd (K w.params)) (Wc ⟨l.prog, w, (K w.params)⟩)) 1 (o_law (P := l.prog) (w := w) (K := (K w.params))))) :
    PySem.W.WalkO q loose XP YP l.row.toRowW d [] (fun f vs => PySem.call f vs) :=
  L2.walk_of (n := 63) (k := 20) (x := "script") (CX := fun _ => CX0) (sp := fun w => (spD ⟨l.prog, w, (K w.params)⟩ (Wp (Wd (K w.params)) (Wc ⟨l.prog, w, (K w.params)⟩)) 1 (o_law (P := l.prog) (w := w) (K := (K w.params))))) hn (by decide) hdf ⟨rfl, by decide, by decide⟩ hY F
    (fun w H a ns hl _ hS => ⟨H, (none, fun _ => none), [.lst (ns.map .int)], fun d _ => d = .bl true, ⟨(fun p e => nomatch e), (fun a u e => nomatch e), fun a _ z => z rfl⟩, Same.refl _, .cons (.lst (by rw [List.length_map]; have := sizeLine_eq; omega) hS (rpa_of_ints ns)) .nil, rfl, ⟨ns, rfl, rfl, hl, fun _ => rfl⟩, fun d s' Hs' H' v hd g r => by
      subst hd
      exact r.blE⟩) fun _ _ _ _ _ z => z
end K15

open PySem PySem.W PyProof.Rows in
set_option maxRecDepth 100000 in
set_option maxHeartbeats 0 in
theorem PySem.Challenge.cw_storesagree_k15_disk_and_room_holds : PySem.Challenge.rw_storesagree_k15_disk_and_room.Holds := by
  w_on; o_law; k_head; (case hw => w_witness2)
  k_fill
  refine K15.walk (l := PySem.Challenge.rw_storesagree_k15_disk_and_room) rfl rfl (fun w h Y => PySem.W.kIn_of Y) ?F
  case F =>
    intro w mg fa h KX G hmg
    refine' K15.all_mk KX G hmg ?a0 ?l0 ?c0 ?k0 ?a1 ?l1 ?c1 ?k1 ?a2 ?l2 ?c2 ?k2 ?a3 ?l3 ?c3 ?k3 ?a4 ?l4 ?c4 ?k4 ?a5 ?l5 ?c5 ?k5 ?a6 ?l6 ?c6 ?k6 ?a7 ?l7 ?c7 ?k7 ?a8 ?l8 ?c8 ?k8 ?a9 ?l9 ?c9 ?k9 ?a10 ?l10 ?c10 ?k10 ?aCDisk ?pgq0 ?hdq0 ?poq0 ?saq0 ?mkq0 ?kcq0 ?nq0_0 ?nq0_1 ?nq0_2 ?nq0_3 ?aq0_0 ?iq0_0 ?lq0_0 ?cq0_0 ?kq0_0 ?aq0_1 ?iq0_1 ?lq0_1 ?cq0_1 ?kq0_1 ?aq0_2 ?iq0_2 ?lq0_2 ?cq0_2 ?kq0_2 ?aq0_3 ?iq0_3 ?lq0_3 ?cq0_3 ?kq0_3 ?aq0_4 ?iq0_4 ?lq0_4 ?cq0_4 ?kq0_4 ?aq0_5 ?iq0_5 ?lq0_5 ?cq0_5 ?kq0_5 ?aq0_6 ?iq0_6 ?lq0_6 ?cq0_6 ?kq0_6 ?aq0_7 ?iq0_7 ?lq0_7 ?cq0_7 ?kq0_7 ?aq0_8 ?iq0_8 ?lq0_8 ?cq0_8 ?kq0_8 ?aq0_9 ?iq0_9 ?lq0_9 ?cq0_9 ?kq0_9 ?aq0_10 ?iq0_10 ?lq0_10 ?cq0_10 ?kq0_10 ?aq0_11 ?iq0_11 ?lq0_11 ?cq0_11 ?kq0_11 ?aCRoom ?pgq1 ?hdq1 ?poq1 ?saq1 ?mkq1 ?kcq1 ?nq1_0 ?nq1_1 ?nq1_2 ?nq1_3 ?nq1_4 ?nq1_5 ?nq1_6 ?nq1_7 ?aq1_0 ?iq1_0 ?lq1_0 ?cq1_0 ?kq1_0 ?aq1_1 ?iq1_1 ?lq1_1 ?cq1_1 ?kq1_1 ?aq1_2 ?iq1_2 ?lq1_2 ?cq1_2 ?kq1_2 ?aq1_3 ?iq1_3 ?lq1_3 ?cq1_3 ?kq1_3 ?aq1_4 ?iq1_4 ?lq1_4 ?cq1_4 ?kq1_4 ?aq1_5 ?iq1_5 ?lq1_5 ?cq1_5 ?kq1_5 ?aq1_6 ?iq1_6 ?lq1_6 ?cq1_6 ?kq1_6 ?aq1_7 ?iq1_7 ?lq1_7 ?cq1_7 ?kq1_7 ?z_int ?z_str ?z_bool ?z_tuple ?z_list ?z_dict ?z_isinstance ?z_len ?z_all ?z_sorted ?z_max ?z_min ?z_abs ?z_range ?z_enumerate ?z_any ?z_sum ?z_set ?z_zip ?aB ?aS ?xB ?kB ?bB ?tB ?bS ?dS ?tS ?sBS ?qB ?g1 ?g2 ?g4 ?g5 ?g6 ?g7 ?g8
    (case a0 => k_is)
    (case l0 => k_is)
    (case c0 => k_is)
    (case k0 => k_is)
    (case a1 => k_is)
    (case l1 => k_is)
    (case c1 => k_is)
    (case k1 => k_is)
    (case a2 => k_is)
    (case l2 => k_is)
    (case c2 => k_is)
    (case k2 => k_is)
    (case a3 => k_is)
    (case l3 => k_is)
    (case c3 => k_is)
    (case k3 => k_is)
    (case a4 => k_is)
    (case l4 => k_is)
    (case c4 => k_is)
    (case k4 => k_is)
    (case a5 => k_is)
    (case l5 => k_is)
    (case c5 => k_is)
    (case k5 => k_is)
    (case a6 => k_is)
    (case l6 => k_is)
    (case c6 => k_is)
    (case k6 => k_is)
    (case a7 => k_is)
    (case l7 => k_is)
    (case c7 => k_is)
    (case k7 => k_is)
    (case a8 => k_is)
    (case l8 => k_is)
    (case c8 => k_is)
    (case k8 => k_is)
    (case a9 => k_is)
    (case l9 => k_is)
    (case c9 => k_is)
    (case k9 => k_is)
    (case a10 => k_is)
    (case l10 => k_is)
    (case c10 => k_is)
    (case k10 => k_is)
    (case aCDisk => k_is)
    (case pgq0 => k_is)
    (case hdq0 => k_is)
    (case poq0 => k_is)
    (case saq0 => k_is)
    (case mkq0 => k_is)
    (case kcq0 => k_is)
    (case nq0_0 => k_is)
    (case nq0_1 => k_is)
    (case nq0_2 => k_is)
    (case nq0_3 => k_is)
    (case aq0_0 => k_is)
    (case iq0_0 => k_is)
    (case lq0_0 => k_is)
    (case cq0_0 => k_is)
    (case kq0_0 => k_is)
    (case aq0_1 => k_is)
    (case iq0_1 => k_is)
    (case lq0_1 => k_is)
    (case cq0_1 => k_is)
    (case kq0_1 => k_is)
    (case aq0_2 => k_is)
    (case iq0_2 => k_is)
    (case lq0_2 => k_is)
    (case cq0_2 => k_is)
    (case kq0_2 => k_is)
    (case aq0_3 => k_is)
    (case iq0_3 => k_is)
    (case lq0_3 => k_is)
    (case cq0_3 => k_is)
    (case kq0_3 => k_is)
    (case aq0_4 => k_is)
    (case iq0_4 => k_is)
    (case lq0_4 => k_is)
    (case cq0_4 => k_is)
    (case kq0_4 => k_is)
    (case aq0_5 => k_is)
    (case iq0_5 => k_is)
    (case lq0_5 => k_is)
    (case cq0_5 => k_is)
    (case kq0_5 => k_is)
    (case aq0_6 => k_is)
    (case iq0_6 => k_is)
    (case lq0_6 => k_is)
    (case cq0_6 => k_is)
    (case kq0_6 => k_is)
    (case aq0_7 => k_is)
    (case iq0_7 => k_is)
    (case lq0_7 => k_is)
    (case cq0_7 => k_is)
    (case kq0_7 => k_is)
    (case aq0_8 => k_is)
    (case iq0_8 => k_is)
    (case lq0_8 => k_is)
    (case cq0_8 => k_is)
    (case kq0_8 => k_is)
    (case aq0_9 => k_is)
    (case iq0_9 => k_is)
    (case lq0_9 => k_is)
    (case cq0_9 => k_is)
    (case kq0_9 => k_is)
    (case aq0_10 => k_is)
    (case iq0_10 => k_is)
    (case lq0_10 => k_is)
    (case cq0_10 => k_is)
    (case kq0_10 => k_is)
    (case aq0_11 => k_is)
    (case iq0_11 => k_is)
    (case lq0_11 => k_is)
    (case cq0_11 => k_is)
    (case kq0_11 => k_is)
    (case aCRoom => k_is)
    (case pgq1 => k_is)
    (case hdq1 => k_is)
    (case poq1 => k_is)
    (case saq1 => k_is)
    (case mkq1 => k_is)
    (case kcq1 => k_is)
    (case nq1_0 => k_is)
    (case nq1_1 => k_is)
    (case nq1_2 => k_is)
    (case nq1_3 => k_is)
    (case nq1_4 => k_is)
    (case nq1_5 => k_is)
    (case nq1_6 => k_is)
    (case nq1_7 => k_is)
    (case aq1_0 => k_is)
    (case iq1_0 => k_is)
    (case lq1_0 => k_is)
    (case cq1_0 => k_is)
    (case kq1_0 => k_is)
    (case aq1_1 => k_is)
    (case iq1_1 => k_is)
    (case lq1_1 => k_is)
    (case cq1_1 => k_is)
    (case kq1_1 => k_is)
    (case aq1_2 => k_is)
    (case iq1_2 => k_is)
    (case lq1_2 => k_is)
    (case cq1_2 => k_is)
    (case kq1_2 => k_is)
    (case aq1_3 => k_is)
    (case iq1_3 => k_is)
    (case lq1_3 => k_is)
    (case cq1_3 => k_is)
    (case kq1_3 => k_is)
    (case aq1_4 => k_is)
    (case iq1_4 => k_is)
    (case lq1_4 => k_is)
    (case cq1_4 => k_is)
    (case kq1_4 => k_is)
    (case aq1_5 => k_is)
    (case iq1_5 => k_is)
    (case lq1_5 => k_is)
    (case cq1_5 => k_is)
    (case kq1_5 => k_is)
    (case aq1_6 => k_is)
    (case iq1_6 => k_is)
    (case lq1_6 => k_is)
    (case cq1_6 => k_is)
    (case kq1_6 => k_is)
    (case aq1_7 => k_is)
    (case iq1_7 => k_is)
    (case lq1_7 => k_is)
    (case cq1_7 => k_is)
    (case kq1_7 => k_is)
    (case z_int => k_is)
    (case z_str => k_is)
    (case z_bool => k_is)
    (case z_tuple => k_is)
    (case z_list => k_is)
    (case z_dict => k_is)
    (case z_isinstance => k_is)
    (case z_len => k_is)
    (case z_all => k_is)
    (case z_sorted => k_is)
    (case z_max => k_is)
    (case z_min => k_is)
    (case z_abs => k_is)
    (case z_range => k_is)
    (case z_enumerate => k_is)
    (case z_any => k_is)
    (case z_sum => k_is)
    (case z_set => k_is)
    (case z_zip => k_is)
    (case aB => k_is)
    (case aS => k_is)
    (case xB => k_exc)
    (case kB => k_is)
    (case bB => k_is)
    (case tB => k_is)
    (case bS => k_is)
    (case dS => k_is)
    (case tS => k_is)
    (case sBS => first | rfl | k_is)
    (case qB => first | rfl | k_is)
    (case g1 => k_is)
    (case g2 => k_is)
    (case g4 => k_is)
    (case g5 => k_is)
    (case g6 => k_is)
    (case g7 => k_is)
    (case g8 => k_is)
