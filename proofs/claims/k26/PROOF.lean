import PyProof.Rows.All
import Wide.All
import OpenK.AllK
import Wide.FinOn
import HandS.ForMost
import HandS.Wide
import HandS.TupAny
import HandS.Style
import HandS.DictEq
import PyProof.NeKinds
import HandS.Defaults
import HandS.MakeKwOnly
import HandS.HeadEnd
import HandS.Zip
import HandS.DictComp
import PyProof.ReprRoads
import HandS.Dict
import HandS.More
import HandS.Finally
import HandS.IsInst
import HandS.ListItems
import HandS.Conv
import HandS.DictTup
import HandS.Keys
import PyProof.Rows.RegStrFacts
import HandS.OwnEq
import HandS.FStrTup
import KE.KStateDown
import HandS.Head0
import HandS.Head1
import HandS.Head2
import HandS.HeadHook1
import HandS.HeadHook2
import HandS.HeadHook3
import HandS.HeadHook4
import PySem.Challenge.RW_frozenmakers_k26_tables_told
set_option Elab.async false
set_option linter.all false
set_option maxRecDepth 100000
set_option maxHeartbeats 4000000
/-! Y, part 1: data over the heap, the world, judgements without a heap. -/
namespace Y
open PySem PySem.Spec PyProof.Rows L2

/-! ### data -/
inductive D where
  | non | bl (b : Bool) | int (i : Int) | str (s : Str)
  | tup (xs : List D) | ktup (xs : List D) | lst (xs : List D) | klst (xs : List D)
  | dk (kvs : List (Key × D)) | dt (kvs : List (List Key × D))
  | ins (C : Addr) (fs : List (Str × D))
  | ref (a : Addr)
  deriving Inhabited

mutual
inductive R (K : PySem.W.Frag) (I : Hp) : V → D → Prop
  | non : R K I .non .non
  | bl (b : Bool) : R K I (.bl b) (.bl b)
  | int (i : Int) : R K I (.int i) (.int i)
  | str (x : Str) : R K I (.str x) (.str x)
  | tup {a : Addr} {xs : List V} {ds : List D} : I a = some (.tup xs) → RA K I xs ds → R K I (.ref a) (.tup ds)
  | ktup {a : Addr} {xs : List V} {ds : List D} : SqT K I a xs → RA K I xs ds → R K I (.ref a) (.ktup ds)
  | lst {a : Addr} {xs : List V} {ds : List D} : I a = some (.lst xs) → RA K I xs ds → R K I (.ref a) (.lst ds)
  | klst {a : Addr} {xs : List V} {ds : List D} : SqL K I a xs → RA K I xs ds → R K I (.ref a) (.klst ds)
  | dk {a : Addr} {kvs : List (Key × V)} {ds : List (Key × D)} : Rd I a (.dK kvs) → kvs.map (·.1) = ds.map (·.1) → RA K I (kvs.map (·.2)) (ds.map (·.2)) → R K I (.ref a) (.dk ds)
  | dt {a : Addr} {kvs : List (List Key × V)} {ds : List (List Key × D)} : Rd I a (.dT kvs) → kvs.map (·.1) = ds.map (·.1) → RA K I (kvs.map (·.2)) (ds.map (·.2)) → R K I (.ref a) (.dt ds)
  | ins {a C dx : Addr} {fs : List (Str × V)} {ds : List (Str × D)} : I a = some (.ins C dx fs) → fs.map (·.1) = ds.map (·.1) → RA K I (fs.map (·.2)) (ds.map (·.2)) → R K I (.ref a) (.ins C ds)
  | ref (a : Addr) : R K I (.ref a) (.ref a)
inductive RA (K : PySem.W.Frag) (I : Hp) : List V → List D → Prop
  | nil : RA K I [] []
  | cons {v : V} {vs : List V} {d : D} {ds : List D} : R K I v d → RA K I vs ds → RA K I (v :: vs) (d :: ds)
end

/-- a heap that holds more -/
def Ex (H H' : Hp) : Prop := ∀ a o, H a = some o → H' a = some o
theorem Ex.refl (H : Hp) : Ex H H := fun _ _ h => h
theorem Ex.trans {H H1 H2 : Hp} (a : Ex H H1) (b : Ex H1 H2) : Ex H H2 := fun x o h => b x o (a x o h)
theorem Ex.new {H : Hp} {p : Addr} {o : HO} (h : H p = none) : Ex H (upd H p o) := fun a u e => by
  rw [upd_ne (ne_of_none e h)]
  exact e
theorem Ex.none {H H' : Hp} {p : Addr} (e : Ex H H') (h : H' p = none) : H p = none := by
  cases h1 : H p with
  | none => rfl
  | some o => rw [e p o h1] at h; cases h
theorem Ex.rd {H H' : Hp} {a : Addr} {u : HO} (e : Ex H H') (h : Rd H a u) : Rd H' a u := by
  rcases h with h | ⟨o, h⟩
  · exact Or.inl (e a _ h)
  · exact Or.inr ⟨o, e a _ h⟩
theorem Ex.l {K : PySem.W.Frag} {H H' : Hp} {a : Addr} {xs : List V} (e : Ex H H') (h : SqL K H a xs) : SqL K H' a xs := by
  rcases h with h | h
  · exact Or.inl (e.rd h)
  · exact Or.inr h
theorem Ex.t {K : PySem.W.Frag} {H H' : Hp} {a : Addr} {xs : List V} (e : Ex H H') (h : SqT K H a xs) : SqT K H' a xs := by
  rcases h with h | h
  · exact Or.inl (e.rd h)
  · exact Or.inr h

section
variable {K : PySem.W.Frag} {I I' : Hp}
mutual
theorem R.mono (e : Ex I I') : ∀ {v : V} {d : D}, R K I v d → R K I' v d
  | _, _, .non => .non
  | _, _, .bl b => .bl b
  | _, _, .int i => .int i
  | _, _, .str x => .str x
  | _, _, .tup h r => .tup (e _ _ h) (RA.mono e r)
  | _, _, .ktup h r => .ktup (e.t h) (RA.mono e r)
  | _, _, .lst h r => .lst (e _ _ h) (RA.mono e r)
  | _, _, .klst h r => .klst (e.l h) (RA.mono e r)
  | _, _, .dk h k r => .dk (e.rd h) k (RA.mono e r)
  | _, _, .dt h k r => .dt (e.rd h) k (RA.mono e r)
  | _, _, .ins h k r => .ins (e _ _ h) k (RA.mono e r)
  | _, _, .ref a => .ref a
theorem RA.mono (e : Ex I I') : ∀ {vs : List V} {ds : List D}, RA K I vs ds → RA K I' vs ds
  | _, _, .nil => .nil
  | _, _, .cons h r => .cons (R.mono e h) (RA.mono e r)
end
theorem RA.length : ∀ {vs : List V} {ds : List D}, RA K I vs ds → vs.length = ds.length
  | _, _, .nil => rfl
  | _, _, .cons _ r => congrArg (· + 1) (RA.length r)
theorem RA.get : ∀ {vs : List V} {ds : List D} {i : Nat} {d : D}, RA K I vs ds → ds[i]? = some d → ∃ v, vs[i]? = some v ∧ R K I v d
  | _, _, _, _, .nil, e => by simp at e
  | _, _, 0, _, .cons h _, e => by simp at e; subst e; exact ⟨_, rfl, h⟩
  | _, _, i + 1, d, .cons _ r, e => by
    obtain ⟨v, h1, h2⟩ := RA.get (i := i) (d := d) r (by simpa using e)
    exact ⟨v, by simpa using h1, h2⟩
theorem RA.getV : ∀ {vs : List V} {ds : List D} {i : Nat} {v : V}, RA K I vs ds → vs[i]? = some v → ∃ d, ds[i]? = some d ∧ R K I v d
  | _, _, _, _, .nil, e => by simp at e
  | _, _, 0, _, .cons h _, e => by simp at e; subst e; exact ⟨_, rfl, h⟩
  | _, _, i + 1, d, .cons _ r, e => by
    obtain ⟨v, h1, h2⟩ := RA.getV (i := i) (v := d) r (by simpa using e)
    exact ⟨v, by simpa using h1, h2⟩
theorem RA.append : ∀ {vs ws : List V} {ds es : List D}, RA K I vs ds → RA K I ws es → RA K I (vs ++ ws) (ds ++ es)
  | _, _, _, _, .nil, s => s
  | _, _, _, _, .cons h r, s => .cons h (RA.append r s)
theorem RA.take : ∀ {vs : List V} {ds : List D} (n : Nat), RA K I vs ds → RA K I (vs.take n) (ds.take n)
  | _, _, 0, _ => .nil
  | _, _, _ + 1, .nil => .nil
  | _, _, n + 1, .cons h r => .cons h (RA.take n r)
theorem RA.drop : ∀ {vs : List V} {ds : List D} (n : Nat), RA K I vs ds → RA K I (vs.drop n) (ds.drop n)
  | _, _, 0, r => r
  | _, _, _ + 1, .nil => .nil
  | _, _, n + 1, .cons _ r => RA.drop n r
theorem RA.eraseIdx : ∀ {vs : List V} {ds : List D} (n : Nat), RA K I vs ds → RA K I (vs.eraseIdx n) (ds.eraseIdx n)
  | _, _, _, .nil => .nil
  | _, _, 0, .cons _ r => r
  | _, _, n + 1, .cons h r => .cons h (RA.eraseIdx n r)
theorem RA.set {v : V} {d : D} (h : R K I v d) : ∀ {vs : List V} {ds : List D} (n : Nat), RA K I vs ds → RA K I (vs.set n v) (ds.set n d)
  | _, _, _, .nil => .nil
  | _, _, 0, .cons _ r => .cons h r
  | _, _, n + 1, .cons g r => .cons g (RA.set h n r)
theorem RA.reverse : ∀ {vs : List V} {ds : List D}, RA K I vs ds → RA K I vs.reverse ds.reverse
  | _, _, .nil => .nil
  | _, _, .cons h r => by rw [List.reverse_cons, List.reverse_cons]; exact (RA.reverse r).append (.cons h .nil)
theorem RA.one {v : V} {d : D} (h : R K I v d) : RA K I [v] [d] := .cons h .nil
theorem RA.ints (ns : List Int) : RA K I (ns.map V.int) (ns.map D.int) := by
  induction ns with
  | nil => exact .nil
  | cons n r ih => exact .cons (.int n) ih
theorem R.int_inv {v : V} {i : Int} (h : R K I v (.int i)) : v = .int i := by cases h; rfl
theorem R.str_inv {v : V} {x : Str} (h : R K I v (.str x)) : v = .str x := by cases h; rfl
theorem R.bl_inv {v : V} {b : Bool} (h : R K I v (.bl b)) : v = .bl b := by cases h; rfl
theorem R.non_inv {v : V} (h : R K I v .non) : v = .non := by cases h; rfl
theorem R.ref_inv {v : V} {a : Addr} (h : R K I v (.ref a)) : v = .ref a := by cases h; rfl
theorem R.tup_inv {v : V} {ds : List D} (h : R K I v (.tup ds)) : ∃ a xs, v = .ref a ∧ I a = some (.tup xs) ∧ RA K I xs ds := by cases h with | tup h r => exact ⟨_, _, rfl, h, r⟩
theorem R.ktup_inv {v : V} {ds : List D} (h : R K I v (.ktup ds)) : ∃ a xs, v = .ref a ∧ SqT K I a xs ∧ RA K I xs ds := by cases h with | ktup h r => exact ⟨_, _, rfl, h, r⟩
theorem R.lst_inv {v : V} {ds : List D} (h : R K I v (.lst ds)) : ∃ a xs, v = .ref a ∧ I a = some (.lst xs) ∧ RA K I xs ds := by cases h with | lst h r => exact ⟨_, _, rfl, h, r⟩
theorem R.klst_inv {v : V} {ds : List D} (h : R K I v (.klst ds)) : ∃ a xs, v = .ref a ∧ SqL K I a xs ∧ RA K I xs ds := by cases h with | klst h r => exact ⟨_, _, rfl, h, r⟩
theorem R.dk_inv {v : V} {ds : List (Key × D)} (h : R K I v (.dk ds)) : ∃ a kvs, v = .ref a ∧ Rd I a (.dK kvs) ∧ kvs.map (·.1) = ds.map (·.1) ∧ RA K I (kvs.map (·.2)) (ds.map (·.2)) := by cases h with | dk h k r => exact ⟨_, _, rfl, h, k, r⟩
theorem R.dt_inv {v : V} {ds : List (List Key × D)} (h : R K I v (.dt ds)) : ∃ a kvs, v = .ref a ∧ Rd I a (.dT kvs) ∧ kvs.map (·.1) = ds.map (·.1) ∧ RA K I (kvs.map (·.2)) (ds.map (·.2)) := by cases h with | dt h k r => exact ⟨_, _, rfl, h, k, r⟩
theorem R.ins_inv {v : V} {C : Addr} {ds : List (Str × D)} (h : R K I v (.ins C ds)) : ∃ a dx fs, v = .ref a ∧ I a = some (.ins C dx fs) ∧ fs.map (·.1) = ds.map (·.1) ∧ RA K I (fs.map (·.2)) (ds.map (·.2)) := by cases h with | ins h k r => exact ⟨_, _, _, rfl, h, k, r⟩
end

/-! ### what is owned, the world -/
abbrev NN := Addr → Option D
def N0 : NN := fun _ => none
def put (N : NN) (p : Addr) (d : D) : NN := fun q => if q = p then some d else N q
def del (N : NN) (p : Addr) : NN := fun q => if q = p then none else N q
theorem put_same {N : NN} {p : Addr} {d : D} : put N p d p = some d := by unfold put; rw [if_pos rfl]
theorem put_ne {N : NN} {p q : Addr} {d : D} (h : q ≠ p) : put N p d q = N q := by unfold put; rw [if_neg h]
theorem del_same {N : NN} {p : Addr} : del N p p = none := by unfold del; rw [if_pos rfl]
theorem del_ne {N : NN} {p q : Addr} (h : q ≠ p) : del N p q = N q := by unfold del; rw [if_neg h]
theorem put_put {N : NN} {p : Addr} {d e : D} : put (put N p d) p e = put N p e := by funext q; unfold put; split <;> rfl
theorem del_put {N : NN} {p : Addr} {d : D} (h : N p = none) : del (put N p d) p = N := by
  funext q; unfold del put; split
  · next e => rw [e, h]
  · rfl
theorem nn_ne {N : NN} {p q : Addr} {d : D} (h : N p = some d) (h' : N q = none) : p ≠ q := by intro e; subst e; rw [h] at h'; cases h'

def Own (K : PySem.W.Frag) (I H : Hp) (p : Addr) : D → Prop
  | .lst ds => ∃ xs, H p = some (.lst xs) ∧ RA K I xs ds
  | .dk ds => ∃ kvs, H p = some (.dK kvs) ∧ kvs.map (·.1) = ds.map (·.1) ∧ RA K I (kvs.map (·.2)) (ds.map (·.2))
  | .dt ds => ∃ kvs, H p = some (.dT kvs) ∧ kvs.map (·.1) = ds.map (·.1) ∧ RA K I (kvs.map (·.2)) (ds.map (·.2))
  | .ins C ds => ∃ dx fs, H p = some (.ins C dx fs) ∧ fs.map (·.1) = ds.map (·.1) ∧ RA K I (fs.map (·.2)) (ds.map (·.2))
  | _ => False
theorem Own.some {K : PySem.W.Frag} {I H : Hp} {p : Addr} {d : D} (h : Own K I H p d) : ∃ o, H p = .some o := by
  cases d with
  | lst ds => obtain ⟨xs, e, _⟩ := h; exact ⟨_, e⟩
  | dk ds => obtain ⟨xs, e, _⟩ := h; exact ⟨_, e⟩
  | dt ds => obtain ⟨xs, e, _⟩ := h; exact ⟨_, e⟩
  | ins C ds => obtain ⟨dx, xs, e, _⟩ := h; exact ⟨_, e⟩
  | _ => exact h.elim
theorem Own.mono {K : PySem.W.Frag} {I I' H H' : Hp} {p : Addr} {d : D} (e : Ex I I') (h : H' p = H p) (o : Own K I H p d) : Own K I' H' p d := by
  cases d with
  | lst ds => obtain ⟨xs, q, r⟩ := o; exact ⟨xs, h.trans q, r.mono e⟩
  | dk ds => obtain ⟨xs, q, k, r⟩ := o; exact ⟨xs, h.trans q, k, r.mono e⟩
  | dt ds => obtain ⟨xs, q, k, r⟩ := o; exact ⟨xs, h.trans q, k, r.mono e⟩
  | ins C ds => obtain ⟨dx, xs, q, k, r⟩ := o; exact ⟨dx, xs, h.trans q, k, r.mono e⟩
  | _ => exact o.elim
/-- what an owned thing is once it is never changed again -/
theorem Own.frz {K : PySem.W.Frag} {I H : Hp} {p : Addr} {d : D} (o : Own K I H p d) (hn : I p = none) : ∃ u, H p = .some u ∧ R K (upd I p u) (.ref p) d := by
  have e : ∀ u, Ex I (upd I p u) := fun u => Ex.new hn
  cases d with
  | lst ds => obtain ⟨xs, q, r⟩ := o; exact ⟨_, q, .lst upd_same (r.mono (e _))⟩
  | dk ds => obtain ⟨xs, q, k, r⟩ := o; exact ⟨_, q, .dk (Or.inl upd_same) k (r.mono (e _))⟩
  | dt ds => obtain ⟨xs, q, k, r⟩ := o; exact ⟨_, q, .dt (Or.inl upd_same) k (r.mono (e _))⟩
  | ins C ds => obtain ⟨dx, xs, q, k, r⟩ := o; exact ⟨_, q, .ins upd_same k (r.mono (e _))⟩
  | _ => exact o.elim

/-- the world: I holds what never changes, N what is owned, S (of the abstract state t) the rest that may change -/
structure Wd {τ : Type} (J : τ → Hp → Prop) (K : PySem.W.Frag) (I : Hp) (N : NN) (t : τ) (H : Hp) : Prop where
  ex : Ex I H
  own : ∀ p d, N p = some d → I p = none ∧ Own K I H p d
  st : ∃ S, J t S ∧ ∀ a o, S a = some o → H a = some o ∧ I a = none ∧ N a = none

section
variable {τ : Type} {J : τ → Hp → Prop} {K : PySem.W.Frag} {I H : Hp} {N : NN} {t : τ} {p : Addr} {o : HO} {d d' : D}
theorem Wd.nfresh (W : Wd J K I N t H) (h : H p = none) : N p = none := by
  cases e : N p with
  | none => rfl
  | some d =>
    obtain ⟨u, q⟩ := (W.own p d e).2.some
    rw [h] at q; cases q
theorem Wd.ifresh (W : Wd J K I N t H) (h : H p = none) : I p = none := W.ex.none h
/-- a new thing that never changes -/
theorem Wd.newI (W : Wd J K I N t H) (h : H p = none) : Wd J K (upd I p o) N t (upd H p o) := by
  have hi := W.ifresh h
  refine ⟨fun a u e => ?_, fun q d e => ?_, ?_⟩
  · by_cases z : a = p
    · subst z; rw [upd_same] at e ⊢; exact e
    · rw [upd_ne z] at e ⊢; exact W.ex a u e
  · obtain ⟨z, w⟩ := W.own q d e
    have ne : q ≠ p := nn_ne e (W.nfresh h)
    exact ⟨by rw [upd_ne ne]; exact z, w.mono (Ex.new hi) (upd_ne ne)⟩
  · obtain ⟨S, j, hs⟩ := W.st
    refine ⟨S, j, fun a u e => ?_⟩
    obtain ⟨x, y, z⟩ := hs a u e
    have ne : a ≠ p := ne_of_none x h
    exact ⟨by rw [upd_ne ne]; exact x, by rw [upd_ne ne]; exact y, z⟩
/-- a new thing that is owned -/
theorem Wd.newN (W : Wd J K I N t H) (h : H p = none) (ow : Own K I (upd H p o) p d) : Wd J K I (put N p d) t (upd H p o) := by
  refine ⟨W.ex.trans (Ex.new h), fun q d1 e => ?_, ?_⟩
  · by_cases z : q = p
    · subst z; rw [put_same] at e; cases e; exact ⟨W.ifresh h, ow⟩
    · rw [put_ne z] at e
      obtain ⟨x, y⟩ := W.own q d1 e
      exact ⟨x, y.mono (Ex.refl I) (upd_ne z)⟩
  · obtain ⟨S, j, hs⟩ := W.st
    refine ⟨S, j, fun a u e => ?_⟩
    obtain ⟨x, y, z⟩ := hs a u e
    have ne : a ≠ p := ne_of_none x h
    exact ⟨by rw [upd_ne ne]; exact x, y, by rw [put_ne ne]; exact z⟩
/-- an owned thing changes -/
theorem Wd.mut (W : Wd J K I N t H) (hp : N p = some d) (ow : Own K I (upd H p o) p d') : Wd J K I (put N p d') t (upd H p o) := by
  obtain ⟨hi, hw⟩ := W.own p d hp
  refine ⟨fun a u e => ?_, fun q d1 e => ?_, ?_⟩
  · rw [upd_ne (ne_of_none e hi)]; exact W.ex a u e
  · by_cases z : q = p
    · subst z; rw [put_same] at e; cases e; exact ⟨hi, ow⟩
    · rw [put_ne z] at e
      obtain ⟨x, y⟩ := W.own q d1 e
      exact ⟨x, y.mono (Ex.refl I) (upd_ne z)⟩
  · obtain ⟨S, j, hs⟩ := W.st
    refine ⟨S, j, fun a u e => ?_⟩
    obtain ⟨x, y, z⟩ := hs a u e
    have ne : a ≠ p := fun q => by rw [q, hp] at z; cases z
    exact ⟨by rw [upd_ne ne]; exact x, y, by rw [put_ne ne]; exact z⟩
/-- an owned thing is never changed again -/
theorem Wd.freeze (W : Wd J K I N t H) (hp : N p = some d) : ∃ I', Ex I I' ∧ Wd J K I' (del N p) t H ∧ R K I' (.ref p) d := by
  obtain ⟨hi, hw⟩ := W.own p d hp
  obtain ⟨u, hu, r⟩ := hw.frz hi
  refine ⟨upd I p u, Ex.new hi, ⟨fun a o e => ?_, fun q d1 e => ?_, ?_⟩, r⟩
  · by_cases z : a = p
    · subst z; rw [upd_same] at e; cases e; exact hu
    · rw [upd_ne z] at e; exact W.ex a o e
  · by_cases z : q = p
    · subst z; rw [del_same] at e; cases e
    · rw [del_ne z] at e
      obtain ⟨x, y⟩ := W.own q d1 e
      exact ⟨by rw [upd_ne z]; exact x, y.mono (Ex.new hi) rfl⟩
  · obtain ⟨S, j, hs⟩ := W.st
    refine ⟨S, j, fun a o e => ?_⟩
    obtain ⟨x, y, z⟩ := hs a o e
    have ne : a ≠ p := fun q => by rw [q, hp] at z; cases z
    exact ⟨x, by rw [upd_ne ne]; exact y, by rw [del_ne ne]; exact z⟩
/-- what is owned may be forgotten -/
theorem Wd.drop (W : Wd J K I N t H) {N' : NN} (h : ∀ p d, N' p = some d → N p = some d) : Wd J K I N' t H := by
  refine ⟨W.ex, fun q d e => W.own q d (h q d e), ?_⟩
  obtain ⟨S, j, hs⟩ := W.st
  refine ⟨S, j, fun a o e => ?_⟩
  obtain ⟨x, y, z⟩ := hs a o e
  refine ⟨x, y, ?_⟩
  cases q : N' a with
  | none => rfl
  | some d => rw [h a d q] at z; cases z
end

/-! ### slots -/
abbrev EnvD := List (Option D)
def Sl (K : PySem.W.Frag) (I : Hp) (σ : L2.St) (env : EnvD) : Prop := σ.length = env.length ∧ ∀ (i : Nat) (d : D), env[i]? = some (some d) → ∃ v, σ[i]? = some (some v) ∧ R K I v d
section
variable {K : PySem.W.Frag} {I I' : Hp} {σ : L2.St} {env : EnvD} {i : Nat} {v : V} {d : D}
theorem Sl.mono (e : Ex I I') (s : Sl K I σ env) : Sl K I' σ env := ⟨s.1, fun i d h => let ⟨v, a, b⟩ := s.2 i d h; ⟨v, a, b.mono e⟩⟩
theorem Sl.get (s : Sl K I σ env) (h : env[i]? = some (some d)) : ∃ v, σ[i]? = some (some v) ∧ R K I v d := s.2 i d h
theorem Sl.set (s : Sl K I σ env) (r : R K I v d) : Sl K I (σ.set i (some v)) (env.set i (some d)) := by
  refine ⟨by rw [List.length_set, List.length_set]; exact s.1, fun j e h => ?_⟩
  by_cases z : i = j
  · subst z
    by_cases lt : i < env.length
    · rw [List.getElem?_set_self lt] at h
      cases h
      exact ⟨v, List.getElem?_set_self (by rw [s.1]; exact lt), r⟩
    · rw [List.getElem?_eq_none (by rw [List.length_set]; omega)] at h; cases h
  · rw [List.getElem?_set_ne z] at h
    rw [List.getElem?_set_ne z]
    exact s.2 j e h
theorem Sl.forget (s : Sl K I σ env) (x : Option V) : Sl K I (σ.set i x) (env.set i none) := by
  refine ⟨by rw [List.length_set, List.length_set]; exact s.1, fun j e h => ?_⟩
  by_cases z : i = j
  · subst z
    by_cases lt : i < env.length
    · rw [List.getElem?_set_self lt] at h; cases h
    · rw [List.getElem?_eq_none (by rw [List.length_set]; omega)] at h; cases h
  · rw [List.getElem?_set_ne z] at h
    rw [List.getElem?_set_ne z]
    exact s.2 j e h
/-- less is known -/
def EnvLe (env env' : EnvD) : Prop := env.length = env'.length ∧ ∀ (i : Nat) (d : D), env'[i]? = some (some d) → env[i]? = some (some d)
theorem Sl.le {env' : EnvD} (s : Sl K I σ env) (h : EnvLe env env') : Sl K I σ env' := ⟨s.1.trans h.1, fun i d e => s.2 i d (h.2 i d e)⟩
end
theorem sl_start {K : PySem.W.Frag} {I : Hp} {vs : List V} {ds : List D} (h : RA K I vs ds) (n : Nat) : Sl K I (vs.map some ++ List.replicate n none) (ds.map some ++ List.replicate n none) := by
  refine ⟨by simp [h.length], fun i d e => ?_⟩
  by_cases lt : i < ds.length
  · rw [List.getElem?_append_left (by simpa using lt), List.getElem?_map] at e
    cases q : ds[i]? with
    | none => rw [q] at e; cases e
    | some d1 =>
      rw [q] at e
      have e1 : d1 = d := by simpa using e
      subst e1
      obtain ⟨v, a, b⟩ := h.get q
      exact ⟨v, by rw [List.getElem?_append_left (by rw [List.length_map, h.length]; exact lt), List.getElem?_map, a]; rfl, b⟩
  · rw [List.getElem?_append_right (by simpa using lt)] at e
    by_cases z : i - (ds.map some).length < n
    · rw [List.getElem?_replicate_of_lt z] at e; cases e
    · rw [List.getElem?_eq_none (by simpa using z)] at e; cases e

/-! ### weakest readings -/
section
variable {X : Cx}
def wE (X : Cx) (e : Expr) : TE := fun σ H Q => ∀ pins s, Inv X pins σ H s → wpAny (model X.prog X.w) X.A (eval e X.env) (EP X pins σ Q) X.xe s
def wT (X : Cx) (e : Expr) : TT := fun σ H Q => ∀ pins s, Inv X pins σ H s → wpAny (model X.prog X.w) X.A (isTrue e X.env (eval e X.env)) (TP X pins σ Q) X.xe s
def wW (X : Cx) (e : Expr) : TT := fun σ H Q => ∀ whole pins s, Inv X pins σ H s → wpAny (model X.prog X.w) X.A (isTrue e X.env whole) (TP X pins σ Q) X.xe s
def wA (X : Cx) (es : List Expr) : TA := fun σ H Q => ∀ pos pins s, Inv X pins σ H s → wpAny (model X.prog X.w) X.A (spliced (backTo pos (starEach es X.env))) (AP X pins σ Q) X.xe s
def wS (X : Cx) (st : Stmt) : TS := fun D σ H => ∀ pins s, Inv X pins σ H s → wpAny (model X.prog X.w) X.A (exec st X.env) (SP X pins D) X.xe s
def wSs (X : Cx) (st : List Stmt) : TS := fun D σ H => ∀ pins s, Inv X pins σ H s → wpAny (model X.prog X.w) X.A (execs st X.env) (SP X pins D) X.xe s
def wG (X : Cx) (tg : Expr) : TG := fun v σ H Q => ∀ pins s u, Inv X pins σ H s → RelV v u → wpAny (model X.prog X.w) X.A (assign tg X.env u) (fun _ s' => ∃ σ' H', Inv X pins σ' H' s' ∧ Q σ' H') X.xe s
theorem pe_w {e : Expr} : PE X e (wE X e) := ⟨fun pins s _ _ _ I h => h pins s I⟩
theorem pt_w {e : Expr} : PT X e (wT X e) := ⟨fun pins s _ _ _ I h => h pins s I⟩
theorem pw_w {e : Expr} : PW X e (wW X e) := ⟨fun w pins s _ _ _ I h => h w pins s I⟩
theorem pa_w {es : List Expr} : PA X es (wA X es) := ⟨fun pos pins s _ _ _ I h => h pos pins s I⟩
theorem ps_w {st : Stmt} : PS X st (wS X st) := ⟨fun pins s _ _ _ I h => h pins s I⟩
theorem pss_w {st : List Stmt} : PSs X st (wSs X st) := ⟨fun pins s _ _ _ I h => h pins s I⟩
theorem pg_w {tg : Expr} : PG X tg (wG X tg) := ⟨fun pins s _ _ _ u _ I r h => h pins s u I r⟩
theorem PE.w {e : Expr} {t : TE} (h : PE X e t) {σ : L2.St} {H : Hp} {Q : VK} (q : t σ H Q) : wE X e σ H Q := fun pins s I => h.run pins s σ H Q I q
theorem PT.w {e : Expr} {t : TT} (h : PT X e t) {σ : L2.St} {H : Hp} {Q : Bool → Hp → Prop} (q : t σ H Q) : wT X e σ H Q := fun pins s I => h.run pins s σ H Q I q
theorem PW.w {e : Expr} {t : TT} (h : PW X e t) {σ : L2.St} {H : Hp} {Q : Bool → Hp → Prop} (q : t σ H Q) : wW X e σ H Q := fun w pins s I => h.run w pins s σ H Q I q
theorem PA.w {es : List Expr} {t : TA} (h : PA X es t) {σ : L2.St} {H : Hp} {Q : List V → Hp → Prop} (q : t σ H Q) : wA X es σ H Q := fun pos pins s I => h.run pos pins s σ H Q I q
theorem PS.w {st : Stmt} {t : TS} (h : PS X st t) {σ : L2.St} {H : Hp} {D : Ends} (q : t D σ H) : wS X st D σ H := fun pins s I => h.run pins s σ H D I q
theorem PSs.w {st : List Stmt} {t : TS} (h : PSs X st t) {σ : L2.St} {H : Hp} {D : Ends} (q : t D σ H) : wSs X st D σ H := fun pins s I => h.run pins s σ H D I q
theorem PG.w {tg : Expr} {t : TG} (h : PG X tg t) {v : V} {σ : L2.St} {H : Hp} {Q : L2.St → Hp → Prop} (q : t v σ H Q) : wG X tg v σ H Q := fun pins s u I r => h.run pins s σ H v u Q I r q
end

/-! ### judgements over data -/
/-- what is wanted behind a statement, over data -/
structure EndD (τ : Type) where
  nx : EnvD → NN → τ → Prop
  rt : D → NN → τ → Prop
  bk : EnvD → NN → τ → Prop := fun _ _ _ => False
  ct : EnvD → NN → τ → Prop := fun _ _ _ => False

section
variable {τ : Type} (J : τ → Hp → Prop) (X : Cx)
/-- the way on, over data -/
def KV1 (I : Hp) (P : D → NN → τ → Prop) (Q : VK) : Prop := ∀ v d I' N' t' H', Ex I I' → Wd J X.K I' N' t' H' → R X.K I' v d → P d N' t' → Q v H'
def EvE (e : Expr) (env : EnvD) (N : NN) (t : τ) (P : D → NN → τ → Prop) : Prop :=
  ∀ σ H I Q, Wd J X.K I N t H → Sl X.K I σ env → KV1 J X I P Q → wE X e σ H Q
def EvT (e : Expr) (env : EnvD) (N : NN) (t : τ) (P : Bool → NN → τ → Prop) : Prop :=
  ∀ σ H I (Q : Bool → Hp → Prop), Wd J X.K I N t H → Sl X.K I σ env → (∀ b I' N' t' H', Ex I I' → Wd J X.K I' N' t' H' → P b N' t' → Q b H') → wT X e σ H Q
def EvW (e : Expr) (env : EnvD) (N : NN) (t : τ) (P : Bool → NN → τ → Prop) : Prop :=
  ∀ σ H I (Q : Bool → Hp → Prop), Wd J X.K I N t H → Sl X.K I σ env → (∀ b I' N' t' H', Ex I I' → Wd J X.K I' N' t' H' → P b N' t' → Q b H') → wW X e σ H Q
def EvA (es : List Expr) (env : EnvD) (N : NN) (t : τ) (P : List D → NN → τ → Prop) : Prop :=
  ∀ σ H I (Q : List V → Hp → Prop), Wd J X.K I N t H → Sl X.K I σ env → (∀ vs ds I' N' t' H', Ex I I' → Wd J X.K I' N' t' H' → RA X.K I' vs ds → P ds N' t' → Q vs H') → wA X es σ H Q
/-- the ways on behind a statement -/
structure KE (I : Hp) (E : EndD τ) (G : Ends) : Prop where
  nx : ∀ env' I' N' t' σ' H', Ex I I' → Wd J X.K I' N' t' H' → Sl X.K I' σ' env' → E.nx env' N' t' → G.nx σ' H'
  rt : ∀ v d I' N' t' H', Ex I I' → Wd J X.K I' N' t' H' → R X.K I' v d → E.rt d N' t' → G.rt v H'
  bk : ∀ env' I' N' t' σ' H', Ex I I' → Wd J X.K I' N' t' H' → Sl X.K I' σ' env' → E.bk env' N' t' → G.bk σ' H'
  ct : ∀ env' I' N' t' σ' H', Ex I I' → Wd J X.K I' N' t' H' → Sl X.K I' σ' env' → E.ct env' N' t' → G.ct σ' H'
def StE (st : Stmt) (env : EnvD) (N : NN) (t : τ) (E : EndD τ) : Prop :=
  ∀ σ H I G, Wd J X.K I N t H → Sl X.K I σ env → KE J X I E G → wS X st G σ H
def StS (st : List Stmt) (env : EnvD) (N : NN) (t : τ) (E : EndD τ) : Prop :=
  ∀ σ H I G, Wd J X.K I N t H → Sl X.K I σ env → KE J X I E G → wSs X st G σ H
/-- a target takes a thing -/
def TgE (tg : Expr) (d : D) (env : EnvD) (N : NN) (t : τ) (P : EnvD → NN → τ → Prop) : Prop :=
  ∀ v σ H I (Q : L2.St → Hp → Prop), Wd J X.K I N t H → Sl X.K I σ env → R X.K I v d → (∀ env' I' N' t' σ' H', Ex I I' → Wd J X.K I' N' t' H' → Sl X.K I' σ' env' → P env' N' t' → Q σ' H') → wG X tg v σ H Q
end
end Y
/-! Y, part 2: expressions. -/
namespace Y
open PySem PySem.Spec PyProof.Rows L2

/-! ### pairs -/
section
variable {κ : Type} [DecidableEq κ] {β : Type}
def lkp (kvs : List (κ × β)) (k : κ) : Option β := (kvs.find? fun kv => decide (kv.1 = k)).map (·.2)
def putP (kvs : List (κ × β)) (k : κ) (v : β) : List (κ × β) :=
  if (kvs.any fun kv => decide (kv.1 = k)) = true then kvs.map (fun kv => if kv.1 = k then (kv.1, v) else kv) else kvs ++ [(k, v)]
end
def RP {κ : Type} (K : PySem.W.Frag) (I : Hp) (kvs : List (κ × V)) (ds : List (κ × D)) : Prop := kvs.map (·.1) = ds.map (·.1) ∧ RA K I (kvs.map (·.2)) (ds.map (·.2))
section
variable {κ : Type} [DecidableEq κ] {K : PySem.W.Frag} {I I' : Hp}
theorem RP.mono {kvs : List (κ × V)} {ds : List (κ × D)} (e : Ex I I') (h : RP K I kvs ds) : RP K I' kvs ds := ⟨h.1, h.2.mono e⟩
theorem RP.length {kvs : List (κ × V)} {ds : List (κ × D)} (h : RP K I kvs ds) : kvs.length = ds.length := by
  have := congrArg List.length h.1
  simpa using this
theorem RP.nil : RP K I ([] : List (κ × V)) ([] : List (κ × D)) := ⟨rfl, .nil⟩
theorem RP.cons {k : κ} {v : V} {d : D} {kvs : List (κ × V)} {ds : List (κ × D)} (r : R K I v d) (h : RP K I kvs ds) : RP K I ((k, v) :: kvs) ((k, d) :: ds) := ⟨by simp [h.1], .cons r h.2⟩
theorem RP.inv {q : κ × D} {kvs : List (κ × V)} {ds : List (κ × D)} (h : RP K I kvs (q :: ds)) : ∃ v r, kvs = (q.1, v) :: r ∧ R K I v q.2 ∧ RP K I r ds := by
  cases kvs with
  | nil => have := h.1; simp at this
  | cons p r =>
    obtain ⟨k, v⟩ := p
    obtain ⟨h1, h2⟩ := h
    simp only [List.map_cons, List.cons.injEq] at h1
    obtain ⟨e1, e2⟩ := h1
    simp only [List.map_cons] at h2
    cases h2 with
    | cons a b => exact ⟨v, r, by rw [e1], a, e2, b⟩
theorem RP.val {kvs : List (κ × V)} {ds : List (κ × D)} (h : RP K I kvs ds) (k : κ) : (lkp ds k = none ∧ valV kvs k = none) ∨ ∃ d v, lkp ds k = some d ∧ valV kvs k = some v ∧ R K I v d := by
  induction ds generalizing kvs with
  | nil =>
    cases kvs with
    | nil => exact .inl ⟨rfl, rfl⟩
    | cons p r => have := h.1; simp at this
  | cons q ds ih =>
    obtain ⟨v, r, rfl, a, b⟩ := h.inv
    by_cases e : q.1 = k
    · exact .inr ⟨q.2, v, by simp [lkp, List.find?_cons, e], by simp [valV, List.find?_cons, e], a⟩
    · rcases ih b with ⟨x, y⟩ | ⟨d, w, x, y, z⟩
      · exact .inl ⟨by simpa [lkp, List.find?_cons, e] using x, by simpa [valV, List.find?_cons, e] using y⟩
      · exact .inr ⟨d, w, by simpa [lkp, List.find?_cons, e] using x, by simpa [valV, List.find?_cons, e] using y, z⟩
theorem RP.any {kvs : List (κ × V)} {ds : List (κ × D)} (h : RP K I kvs ds) (k : κ) : (kvs.any fun kv => decide (kv.1 = k)) = (ds.any fun kv => decide (kv.1 = k)) := by
  have e : ∀ {β : Type} (l : List (κ × β)), (l.any fun kv => decide (kv.1 = k)) = ((l.map (·.1)).any fun z => decide (z = k)) := fun l => by simp [List.any_map, Function.comp_def]
  rw [e, e, h.1]
theorem RP.mapv {k : κ} {v : V} {d : D} (r : R K I v d) : ∀ {ds : List (κ × D)} {kvs : List (κ × V)}, RP K I kvs ds → RP K I (kvs.map fun kv => if kv.1 = k then (kv.1, v) else kv) (ds.map fun kv => if kv.1 = k then (kv.1, d) else kv)
  | [], kvs, h => by
    cases kvs with
    | nil => exact .nil
    | cons p r => have := h.1; simp at this
  | q :: ds, kvs, h => by
    obtain ⟨w, l, rfl, a, b⟩ := h.inv
    have ih := RP.mapv (k := k) r b
    rw [List.map_cons, List.map_cons]
    by_cases e : q.1 = k
    · rw [if_pos e, if_pos e]; exact ih.cons r
    · rw [if_neg e, if_neg e]; exact ih.cons a
theorem RP.snoc {kvs : List (κ × V)} {ds : List (κ × D)} (h : RP K I kvs ds) {k : κ} {v : V} {d : D} (r : R K I v d) : RP K I (kvs ++ [(k, v)]) (ds ++ [(k, d)]) := by
  refine ⟨by simp [h.1], ?_⟩
  rw [List.map_append, List.map_append]
  exact h.2.append (.cons r .nil)
theorem RP.put {kvs : List (κ × V)} {ds : List (κ × D)} (h : RP K I kvs ds) (k : κ) {v : V} {d : D} (r : R K I v d) : RP K I (putK kvs k v) (putP ds k d) := by
  unfold putK putP
  rw [h.any k]
  split
  · exact h.mapv r
  · exact h.snoc r
end
/-- a key as a datum -/
def keyD : Key → D
  | .inl i => .int i
  | .inr x => .str x
theorem keyD_inv {K : PySem.W.Frag} {I : Hp} {v : V} {k : Key} (h : R K I v (keyD k)) : v = kV k := by
  cases k <;> (cases h; rfl)
theorem keyD_R {K : PySem.W.Frag} {I : Hp} {k : Key} : R K I (kV k) (keyD k) := by
  cases k <;> constructor
theorem keysD_inv {K : PySem.W.Frag} {I : Hp} : ∀ {ks : List Key} {vs : List V}, RA K I vs (ks.map keyD) → vs = ks.map kV
  | [], _, h => by cases h; rfl
  | k :: ks, _, h => by
    cases h with
    | cons a b => rw [keyD_inv a, keysD_inv b]; rfl

/-! ### views -/
def LV (N : NN) (x : D) (xs : List D) : Prop := x = .lst xs ∨ ∃ p, x = .ref p ∧ N p = some (.lst xs)
def TV (x : D) (xs : List D) : Prop := x = .tup xs ∨ x = .ktup xs
def DV (N : NN) (x : D) (kvs : List (Key × D)) : Prop := x = .dk kvs ∨ ∃ p, x = .ref p ∧ N p = some (.dk kvs)
def TDV (N : NN) (x : D) (kvs : List (List Key × D)) : Prop := x = .dt kvs ∨ ∃ p, x = .ref p ∧ N p = some (.dt kvs)
def IV (N : NN) (x : D) (C : Addr) (fs : List (Str × D)) : Prop := x = .ins C fs ∨ ∃ p, x = .ref p ∧ N p = some (.ins C fs)
theorem LV.i {N : NN} {xs : List D} : LV N (.lst xs) xs := .inl rfl
theorem LV.o {N : NN} {p : Addr} {xs : List D} (h : N p = some (.lst xs)) : LV N (.ref p) xs := .inr ⟨p, rfl, h⟩
theorem TV.i {xs : List D} : TV (.tup xs) xs := .inl rfl
theorem TV.k {xs : List D} : TV (.ktup xs) xs := .inr rfl
theorem DV.i {N : NN} {xs : List (Key × D)} : DV N (.dk xs) xs := .inl rfl
theorem DV.o {N : NN} {p : Addr} {xs : List (Key × D)} (h : N p = some (.dk xs)) : DV N (.ref p) xs := .inr ⟨p, rfl, h⟩
theorem TDV.i {N : NN} {xs : List (List Key × D)} : TDV N (.dt xs) xs := .inl rfl
theorem TDV.o {N : NN} {p : Addr} {xs : List (List Key × D)} (h : N p = some (.dt xs)) : TDV N (.ref p) xs := .inr ⟨p, rfl, h⟩
theorem IV.i {N : NN} {C : Addr} {fs : List (Str × D)} : IV N (.ins C fs) C fs := .inl rfl
theorem IV.o {N : NN} {p C : Addr} {fs : List (Str × D)} (h : N p = some (.ins C fs)) : IV N (.ref p) C fs := .inr ⟨p, rfl, h⟩
section
variable {τ : Type} {J : τ → Hp → Prop} {K : PySem.W.Frag} {I H : Hp} {N : NN} {t : τ} {v : V} {x : D}
theorem LV.at {xs : List D} (W : Wd J K I N t H) (r : R K I v x) (h : LV N x xs) : ∃ a ys, v = .ref a ∧ H a = some (.lst ys) ∧ RA K I ys xs := by
  rcases h with rfl | ⟨p, rfl, h⟩
  · obtain ⟨a, ys, rfl, q, ra⟩ := r.lst_inv
    exact ⟨a, ys, rfl, W.ex _ _ q, ra⟩
  · obtain ⟨ys, q, ra⟩ := (W.own p _ h).2
    exact ⟨p, ys, r.ref_inv, q, ra⟩
theorem LV.sq {xs : List D} (W : Wd J K I N t H) (r : R K I v x) (h : LV N x xs) : ∃ a ys, v = .ref a ∧ SqL K H a ys ∧ RA K I ys xs := by
  obtain ⟨a, ys, e, q, ra⟩ := h.at W r
  exact ⟨a, ys, e, SqL.of q, ra⟩
theorem TV.sq {xs : List D} (W : Wd J K I N t H) (r : R K I v x) (h : TV x xs) : ∃ a ys, v = .ref a ∧ SqT K H a ys ∧ RA K I ys xs := by
  rcases h with rfl | rfl
  · obtain ⟨a, ys, rfl, q, ra⟩ := r.tup_inv
    exact ⟨a, ys, rfl, SqT.of (W.ex _ _ q), ra⟩
  · obtain ⟨a, ys, rfl, q, ra⟩ := r.ktup_inv
    exact ⟨a, ys, rfl, W.ex.t q, ra⟩
theorem DV.rd {xs : List (Key × D)} (W : Wd J K I N t H) (r : R K I v x) (h : DV N x xs) : ∃ a kvs, v = .ref a ∧ Rd H a (.dK kvs) ∧ RP K I kvs xs := by
  rcases h with rfl | ⟨p, rfl, h⟩
  · obtain ⟨a, ys, rfl, q, k, ra⟩ := r.dk_inv
    exact ⟨a, ys, rfl, W.ex.rd q, k, ra⟩
  · obtain ⟨ys, q, k, ra⟩ := (W.own p _ h).2
    exact ⟨p, ys, r.ref_inv, .inl q, k, ra⟩
theorem TDV.rd {xs : List (List Key × D)} (W : Wd J K I N t H) (r : R K I v x) (h : TDV N x xs) : ∃ a kvs, v = .ref a ∧ Rd H a (.dT kvs) ∧ RP K I kvs xs := by
  rcases h with rfl | ⟨p, rfl, h⟩
  · obtain ⟨a, ys, rfl, q, k, ra⟩ := r.dt_inv
    exact ⟨a, ys, rfl, W.ex.rd q, k, ra⟩
  · obtain ⟨ys, q, k, ra⟩ := (W.own p _ h).2
    exact ⟨p, ys, r.ref_inv, .inl q, k, ra⟩
theorem IV.at {C : Addr} {fs : List (Str × D)} (W : Wd J K I N t H) (r : R K I v x) (h : IV N x C fs) : ∃ a dx ys, v = .ref a ∧ H a = some (.ins C dx ys) ∧ RP K I ys fs := by
  rcases h with rfl | ⟨p, rfl, h⟩
  · obtain ⟨a, dx, ys, rfl, q, k, ra⟩ := r.ins_inv
    exact ⟨a, dx, ys, rfl, W.ex _ _ q, k, ra⟩
  · obtain ⟨dx, ys, q, k, ra⟩ := (W.own p _ h).2
    exact ⟨p, dx, ys, r.ref_inv, q, k, ra⟩
end

/-! ### weak operations -/
section
variable {X : Cx}
def wO (X : Cx) (f : Value → Value → Sem Value) : R2 := fun x y H Q => ∀ pins s σ v u, Inv X pins σ H s → RelV x v → RelV y u → wpAny (model X.prog X.w) X.A (f v u) (EP X pins σ Q) X.xe s
theorem or_w {f : Value → Value → Sem Value} : OpR X f (wO X f) := fun pins s σ H x y v u Q I r1 r2 h => h pins s σ v u I r1 r2
theorem or_to {f : Value → Value → Sem Value} {r : R2} (h : OpR X f r) {x y : V} {H : Hp} {Q : VK} (q : r x y H Q) : wO X f x y H Q := fun pins s σ v u I r1 r2 => h pins s σ H x y v u Q I r1 r2 q
def wCl (X : Cx) (f : Value) : List V → Hp → VK → Prop := fun xs H Q => ∀ pins s σ us, Inv X pins σ H s → Vals xs us → wpAny (model X.prog X.w) X.A (call f us) (EP X pins σ Q) X.xe s
theorem cr_w {f : Value} : CallR X f (wCl X f) := fun pins s σ H xs us Q I r h => h pins s σ us I r
theorem cr_to {f : Value} {r : List V → Hp → VK → Prop} (h : CallR X f r) {xs : List V} {H : Hp} {Q : VK} (q : r xs H Q) : wCl X f xs H Q := fun pins s σ us I rr => h pins s σ H xs us Q I rr q
end
section
variable {τ : Type} (J : τ → Hp → Prop) (X : Cx)
def OpD (f : Value → Value → Sem Value) (x y : D) (N : NN) (t : τ) (P : D → NN → τ → Prop) : Prop :=
  ∀ I H v u Q, Wd J X.K I N t H → R X.K I v x → R X.K I u y → KV1 J X I P Q → wO X f v u H Q
def ClD (f : Value) (xs : List D) (N : NN) (t : τ) (P : D → NN → τ → Prop) : Prop :=
  ∀ I H vs Q, Wd J X.K I N t H → RA X.K I vs xs → KV1 J X I P Q → wCl X f vs H Q
end

section
variable {τ : Type} {J : τ → Hp → Prop} {X : Cx} {env : EnvD} {N : NN} {t : τ} {pos : Pos} {P : D → NN → τ → Prop} {PB : Bool → NN → τ → Prop}
theorem KV1.ex {I I' : Hp} {Q : VK} (e : Ex I I') (C : KV1 J X I P Q) : KV1 J X I' P Q := fun v d I2 N' t' H' e2 W r p => C v d I2 N' t' H' (e.trans e2) W r p
/-- the way on at the same world -/
theorem KV1.now {I H : Hp} {Q : VK} {v : V} {d : D} (C : KV1 J X I P Q) (W : Wd J X.K I N t H) (r : R X.K I v d) (p : P d N t) : Q v H := C v d I N t H (Ex.refl I) W r p
theorem EvE.mono {e : Expr} {P' : D → NN → τ → Prop} (h : EvE J X e env N t P) (k : ∀ d N' t', P d N' t' → P' d N' t') : EvE J X e env N t P' := fun σ H I Q W S C =>
  h σ H I Q W S fun v d I' N' t' H' e W' r p => C v d I' N' t' H' e W' r (k _ _ _ p)
theorem EvT.mono {e : Expr} {P' : Bool → NN → τ → Prop} (h : EvT J X e env N t PB) (k : ∀ d N' t', PB d N' t' → P' d N' t') : EvT J X e env N t P' := fun σ H I Q W S C =>
  h σ H I Q W S fun b I' N' t' H' e W' p => C b I' N' t' H' e W' (k _ _ _ p)

/-! ### names, constants -/
theorem ev_name {i : Nat} {x : Str} {d : D} (hd : env[i]? = some (some d)) (hP : P d N t) (hN : X.N[i]? = some x := by rfl) (hv : Vis X.env.scope x := by first | exact Or.inl rfl | exact Or.inr (Or.inl rfl) | exact Or.inr (Or.inr rfl))
    (hdb : (x == ("__debug__" : Str)) = false := by decide) (hcd : (x == ("__classdict__" : Str)) = false := by decide) : EvE J X (.Name x pos) env N t P := fun σ H I Q W S C => by
  obtain ⟨v, e, r⟩ := S.get hd
  exact PE.w (pe_var hN hv hdb hcd) ⟨v, e, C.now W r hP⟩
theorem ev_int {i : Int} {j} (hP : P (.int i) N t) : EvE J X (.Constant (.int i) j pos) env N t P := fun σ H I Q W S C => PE.w pe_int (C.now W (.int i) hP)
theorem ev_str {x : Str} {j} (hP : P (.str x) N t) : EvE J X (.Constant (.str x) j pos) env N t P := fun σ H I Q W S C => PE.w pe_str (C.now W (.str x) hP)
theorem ev_bl {b : Bool} {j} (hP : P (.bl b) N t) : EvE J X (.Constant (.bool b) j pos) env N t P := fun σ H I Q W S C => PE.w pe_bl (C.now W (.bl b) hP)
theorem ev_non {j} (hP : P .non N t) : EvE J X (.Constant .none j pos) env N t P := fun σ H I Q W S C => PE.w pe_non (C.now W .non hP)
theorem ev_glob {x : Str} {u : Value} {v : V} {d : D} (hm : X.mg x = some u) (r : RelV v u) (hr : ∀ I, R X.K I v d) (hP : P d N t) (hg : Gl X x := by rfl) (hd : (x == ("__debug__" : Str)) = false := by decide) : EvE J X (.Name x pos) env N t P :=
  fun σ H I Q W S C => PE.w (pe_glob hg hm r hd) (C.now W (hr I) hP)

/-! ### operators -/
theorem ev_bin {op : Operator} {a b : Expr} (h : EvE J X a env N t fun x N1 t1 => EvE J X b env N1 t1 fun y N2 t2 => OpD J X (binaryOp op) x y N2 t2 P) : EvE J X (.BinOp a op b pos) env N t P := fun σ H I Q W S C =>
  PE.w (pe_op or_w pe_w pe_w) (h σ H I _ W S fun v x I1 N1 t1 H1 e1 W1 r1 k => k σ H1 I1 _ W1 (S.mono e1) fun u y I2 N2 t2 H2 e2 W2 r2 q => q I2 H2 v u Q W2 (r1.mono e2) r2 (C.ex (e1.trans e2)))
theorem ev_cmp {op : CmpOp} {a b : Expr} (h : EvE J X a env N t fun x N1 t1 => EvE J X b env N1 t1 fun y N2 t2 => OpD J X (compareOp op) x y N2 t2 P)
    (hm : behindInMarks op b = false := by first | exact nomark _ | with_unfolding_all rfl) : EvE J X (.Compare a [op] [b] pos) env N t P := fun σ H I Q W S C =>
  PE.w (pe_cmpR or_w pe_w pe_w hm) (h σ H I _ W S fun v x I1 N1 t1 H1 e1 W1 r1 k => k σ H1 I1 _ W1 (S.mono e1) fun u y I2 N2 t2 H2 e2 W2 r2 q => q I2 H2 v u Q W2 (r1.mono e2) r2 (C.ex (e1.trans e2)))
/-- what a truth value gives a test -/
def PBl (PB : Bool → NN → τ → Prop) : D → NN → τ → Prop := fun d N t => ∃ b, d = .bl b ∧ PB b N t
theorem et_cmp {op : CmpOp} {a b : Expr} (h : EvE J X a env N t fun x N1 t1 => EvE J X b env N1 t1 fun y N2 t2 => OpD J X (compareOp op) x y N2 t2 (PBl PB))
    (hm : behindInMarks op b = false := by first | exact nomark _ | with_unfolding_all rfl) : EvT J X (.Compare a [op] [b] pos) env N t PB := fun σ H I Q W S C =>
  PT.w (pt_cmpR or_w pe_w pe_w hm) (h σ H I _ W S fun v x I1 N1 t1 H1 e1 W1 r1 k => k σ H1 I1 _ W1 (S.mono e1) fun u y I2 N2 t2 H2 e2 W2 r2 q => q I2 H2 v u _ W2 (r1.mono e2) r2
    fun z d I3 N3 t3 H3 e3 W3 r3 ⟨c, ed, pc⟩ => by subst ed; cases r3; exact ⟨c, rfl, C c I3 N3 t3 H3 ((e1.trans e2).trans e3) W3 pc⟩)
theorem et_val {e : Expr} (h : EvE J X e env N t (PBl PB)) (he : ∀ whole, isTrue e X.env whole = (do let v ← whole; standAt e.pos; holding [v] (truthy v)) := by intro _; rfl) : EvT J X e env N t PB := fun σ H I Q W S C =>
  PT.w (pt_val pe_w he) (h σ H I _ W S fun z d I3 N3 t3 H3 e3 W3 r3 ⟨c, ed, pc⟩ => by subst ed; cases r3; exact ⟨c, rfl, C c I3 N3 t3 H3 e3 W3 pc⟩)
theorem et_not {e : Expr} (h : EvT J X e env N t fun b N1 t1 => PB (!b) N1 t1) : EvT J X (.UnaryOp .Not e pos) env N t PB := fun σ H I Q W S C =>
  PT.w (pt_not pt_w) (h σ H I _ W S fun b I' N' t' H' e W' p => C _ I' N' t' H' e W' p)
theorem ev_not {e : Expr} (h : EvE J X e env N t fun d N1 t1 => ∃ b, d = .bl b ∧ P (.bl (!b)) N1 t1) : EvE J X (.UnaryOp .Not e pos) env N t P := fun σ H I Q W S C =>
  PE.w (pe_not pe_w) (h σ H I _ W S fun z d I3 N3 t3 H3 e3 W3 r3 ⟨c, ed, pc⟩ => by subst ed; cases r3; exact ⟨c, rfl, C _ _ I3 N3 t3 H3 e3 W3 (.bl _) pc⟩)
/-! and, or as tests -/
theorem ew_one {op} {a : Expr} (h : EvT J X a env N t PB) : EvW J X (.BoolOp op [a] pos) env N t PB := fun σ H I Q W S C => by
  cases op with
  | And => exact PW.w (pw_and1 pt_w) (h σ H I Q W S C)
  | Or => exact PW.w (pw_or1 pt_w) (h σ H I Q W S C)
theorem ew_and {a b : Expr} {rest : List Expr} (h : EvT J X a env N t fun c N1 t1 => (c = true → EvW J X (.BoolOp .And (b :: rest) pos) env N1 t1 PB) ∧ (c = false → PB false N1 t1)) : EvW J X (.BoolOp .And (a :: b :: rest) pos) env N t PB := fun σ H I Q W S C =>
  PW.w (pw_and pt_w pw_w) (h σ H I _ W S fun c I1 N1 t1 H1 e1 W1 p => by
    cases c with
    | true => exact iteT (p.1 rfl σ H1 I1 Q W1 (S.mono e1) fun b I2 N2 t2 H2 e2 W2 q => C b I2 N2 t2 H2 (e1.trans e2) W2 q)
    | false => exact iteF (C false I1 N1 t1 H1 e1 W1 (p.2 rfl)))
theorem ew_or {a b : Expr} {rest : List Expr} (h : EvT J X a env N t fun c N1 t1 => (c = false → EvW J X (.BoolOp .Or (b :: rest) pos) env N1 t1 PB) ∧ (c = true → PB true N1 t1)) : EvW J X (.BoolOp .Or (a :: b :: rest) pos) env N t PB := fun σ H I Q W S C =>
  PW.w (pw_or pt_w pw_w) (h σ H I _ W S fun c I1 N1 t1 H1 e1 W1 p => by
    cases c with
    | false => exact iteF (p.1 rfl σ H1 I1 Q W1 (S.mono e1) fun b I2 N2 t2 H2 e2 W2 q => C b I2 N2 t2 H2 (e1.trans e2) W2 q)
    | true => exact iteT (C true I1 N1 t1 H1 e1 W1 (p.2 rfl)))
theorem et_w {e : Expr} (h : EvW J X e env N t PB) : EvT J X e env N t PB := fun σ H I Q W S C => PT.w (PW.pt pw_w) (h σ H I Q W S C)
/-! and, or as values (truth values) -/
theorem ev_one {op} {a : Expr} (h : EvE J X a env N t P) : EvE J X (.BoolOp op [a] pos) env N t P := fun σ H I Q W S C => PE.w (pe_one pe_w) (h σ H I Q W S C)
theorem ev_and {a b : Expr} {rest : List Expr} (h : EvE J X a env N t fun d N1 t1 => ∃ c, d = .bl c ∧ (c = true → EvE J X (.BoolOp .And (b :: rest) pos) env N1 t1 P) ∧ (c = false → P (.bl false) N1 t1)) : EvE J X (.BoolOp .And (a :: b :: rest) pos) env N t P := fun σ H I Q W S C =>
  PE.w (pe_and pe_w pe_w) (h σ H I _ W S fun z d I1 N1 t1 H1 e1 W1 r ⟨c, ed, p1, p2⟩ => by
    subst ed; cases r
    refine ⟨c, rfl, ?_⟩
    cases c with
    | true => exact iteT (p1 rfl σ H1 I1 Q W1 (S.mono e1) (C.ex e1))
    | false => exact iteF (C _ _ I1 N1 t1 H1 e1 W1 (.bl false) (p2 rfl)))
theorem ev_or {a b : Expr} {rest : List Expr} (h : EvE J X a env N t fun d N1 t1 => ∃ c, d = .bl c ∧ (c = false → EvE J X (.BoolOp .Or (b :: rest) pos) env N1 t1 P) ∧ (c = true → P (.bl true) N1 t1)) : EvE J X (.BoolOp .Or (a :: b :: rest) pos) env N t P := fun σ H I Q W S C =>
  PE.w (pe_or pe_w pe_w) (h σ H I _ W S fun z d I1 N1 t1 H1 e1 W1 r ⟨c, ed, p1, p2⟩ => by
    subst ed; cases r
    refine ⟨c, rfl, ?_⟩
    cases c with
    | false => exact iteF (p1 rfl σ H1 I1 Q W1 (S.mono e1) (C.ex e1))
    | true => exact iteT (C _ _ I1 N1 t1 H1 e1 W1 (.bl true) (p2 rfl)))
theorem ev_if {c a b : Expr} (h : EvT J X c env N t fun z N1 t1 => (z = true → EvE J X a env N1 t1 P) ∧ (z = false → EvE J X b env N1 t1 P)) : EvE J X (.IfExp c a b pos) env N t P := fun σ H I Q W S C =>
  PE.w (pe_ifExp pt_w pe_w pe_w) (h σ H I _ W S fun z I1 N1 t1 H1 e1 W1 p => by
    cases z with
    | true => exact iteT (p.1 rfl σ H1 I1 Q W1 (S.mono e1) (C.ex e1))
    | false => exact iteF (p.2 rfl σ H1 I1 Q W1 (S.mono e1) (C.ex e1)))

/-! ### arguments, displays -/
theorem ea_nil {PL : List D → NN → τ → Prop} (h : PL [] N t) : EvA J X [] env N t PL := fun σ H I Q W S C => PA.w pa_nil (C [] [] I N t H (Ex.refl I) W .nil h)
theorem ea_cons {e : Expr} {es : List Expr} {PL : List D → NN → τ → Prop} (h : EvE J X e env N t fun d N1 t1 => EvA J X es env N1 t1 fun ds N2 t2 => PL (d :: ds) N2 t2)
    (hs : starEach (e :: es) X.env = (false, eval e X.env) :: starEach es X.env := by rfl) : EvA J X (e :: es) env N t PL := fun σ H I Q W S C =>
  PA.w (pa_cons pe_w pa_w hs) (h σ H I _ W S fun v d I1 N1 t1 H1 e1 W1 r1 k => k σ H1 I1 _ W1 (S.mono e1) fun vs ds I2 N2 t2 H2 e2 W2 r2 q => C _ _ I2 N2 t2 H2 (e1.trans e2) W2 (.cons (r1.mono e2) r2) q)
theorem ev_tup {es : List Expr} {x1} (h : EvA J X es env N t fun ds N1 t1 => ds.length ≤ 100000 ∧ P (.tup ds) N1 t1) : EvE J X (.Tuple es x1 pos) env N t P := fun σ H I Q W S C =>
  PE.w (pe_tup pa_w) (h σ H I _ W S fun vs ds I1 N1 t1 H1 e1 W1 r ⟨hl, p⟩ => ⟨by rw [r.length]; exact Nat.le_trans hl (by decide), fun q hq =>
    C _ _ (upd I1 q (.tup vs)) N1 t1 _ (e1.trans (Ex.new (W1.ifresh hq))) (W1.newI hq) (.tup upd_same (r.mono (Ex.new (W1.ifresh hq)))) p⟩)
/-- a list that is never changed -/
theorem ev_lst {es : List Expr} (h : EvA J X es env N t fun ds N1 t1 => ds.length ≤ 100000 ∧ P (.lst ds) N1 t1) : EvE J X (.List es pos) env N t P := fun σ H I Q W S C =>
  PE.w (pe_lst pa_w) (h σ H I _ W S fun vs ds I1 N1 t1 H1 e1 W1 r ⟨hl, p⟩ => ⟨by rw [r.length]; exact Nat.le_trans hl (by decide), fun q hq =>
    C _ _ (upd I1 q (.lst vs)) N1 t1 _ (e1.trans (Ex.new (W1.ifresh hq))) (W1.newI hq) (.lst upd_same (r.mono (Ex.new (W1.ifresh hq)))) p⟩)
/-- a list that is owned -/
theorem ev_lstN {es : List Expr} (h : EvA J X es env N t fun ds N1 t1 => ds.length ≤ 100000 ∧ ∀ p, N1 p = none → P (.ref p) (put N1 p (.lst ds)) t1) : EvE J X (.List es pos) env N t P := fun σ H I Q W S C =>
  PE.w (pe_lst pa_w) (h σ H I _ W S fun vs ds I1 N1 t1 H1 e1 W1 r ⟨hl, p⟩ => ⟨by rw [r.length]; exact Nat.le_trans hl (by decide), fun q hq =>
    C _ _ I1 _ t1 _ e1 (W1.newN (d := .lst ds) hq ⟨vs, upd_same, r⟩) (.ref q) (p q (W1.nfresh hq))⟩)
/-- an empty dict that is owned -/
theorem ev_dictN (h : ∀ p, N p = none → P (.ref p) (put N p (.dk [])) t) : EvE J X (.Dict [] [] pos) env N t P := fun σ H I Q W S C =>
  PE.w pe_dnewK fun q hq => C _ _ I _ t _ (Ex.refl I) (W.newN (d := .dk []) hq ⟨[], upd_same, rfl, .nil⟩) (.ref q) (h q (W.nfresh hq))
theorem ev_dictTN (h : ∀ p, N p = none → P (.ref p) (put N p (.dt [])) t) : EvE J X (.Dict [] [] pos) env N t P := fun σ H I Q W S C =>
  PE.w pe_dnewT fun q hq => C _ _ I _ t _ (Ex.refl I) (W.newN (d := .dt []) hq ⟨[], upd_same, rfl, .nil⟩) (.ref q) (h q (W.nfresh hq))
/-- an owned thing that comes is frozen -/
theorem ev_frz {e : Expr} (h : EvE J X e env N t fun d N1 t1 => ∃ p o, d = .ref p ∧ N1 p = some o ∧ P o (del N1 p) t1) : EvE J X e env N t P := fun σ H I Q W S C =>
  h σ H I Q W S fun v d I1 N1 t1 H1 e1 W1 r ⟨p, o, ed, hp, q⟩ => by
    subst ed
    obtain ⟨I2, e2, W2, r2⟩ := W1.freeze hp
    rw [r.ref_inv]
    exact C _ _ I2 _ t1 H1 (e1.trans e2) W2 r2 q

/-! ### items -/
theorem ix_dict (hu : X.A.units + 1 < cLine) : IxR X (fun x y H Q => ∃ a v, x = .ref a ∧ DGet H a y (some v) ∧ Q v H) := by
  intro value slice pins s σ H x y v u Q I rx ry h hs
  obtain ⟨a, z, rfl, g, q⟩ := h
  cases rx
  exact tail_any (dict_typeIs I g) PySem.F.slot_dict_getitem.lookup (d_getItem hu I g ry fun w' s' I' r' => ⟨z, H, I', r', q⟩) hs
def atD {α : Type} (xs : List α) (i : Int) : Option α := atI xs i
/-- x[y] is z -/
def ItD (N : NN) (x y z : D) : Prop :=
  (∃ xs i, LV N x xs ∧ y = .int i ∧ atI xs i = some z) ∨ (∃ xs i, TV x xs ∧ y = .int i ∧ atI xs i = some z) ∨ (∃ s i c, x = .str s ∧ s.length ≤ sizeLine ∧ y = .int i ∧ atI s.cps.toList i = some c ∧ z = .str ⟨#[c]⟩) ∨
  (∃ kvs k, DV N x kvs ∧ y = keyD k ∧ lkp kvs k = some z) ∨ (∃ kvs ks, TDV N x kvs ∧ y = .tup (ks.map keyD) ∧ lkp kvs ks = some z)
theorem atI_rel {K : PySem.W.Frag} {I : Hp} {ys : List V} {xs : List D} {i : Int} {z : D} (r : RA K I ys xs) (h : atI xs i = some z) : ∃ v, atI ys i = some v ∧ R K I v z := by
  unfold atI at h ⊢
  rw [r.length]
  cases e : ixN xs.length i with
  | none => rw [e] at h; cases h
  | some j =>
    rw [e] at h
    exact r.get h
theorem ev_item {a b : Expr} (hu : X.A.units + 64 < cLine) (h : EvE J X a env N t fun x N1 t1 => EvE J X b env N1 t1 fun y N2 t2 => ∃ z, ItD N2 x y z ∧ P z N2 t2) (hs : PlainIx b := by exact fun _ _ => rfl) : EvE J X (.Subscript a b pos) env N t P := fun σ H I Q W S C =>
  PE.w (pe_ix (IxR.or ix_seq (ix_dict (by omega))) pe_w pe_w hs) (h σ H I _ W S fun v x I1 N1 t1 H1 e1 W1 r1 k => k σ H1 I1 _ W1 (S.mono e1) fun u y I2 N2 t2 H2 e2 W2 r2 ⟨z, hz, q⟩ => by
    have r1 := r1.mono e2
    have C2 := C.ex (e1.trans e2)
    rcases hz with ⟨xs, i, hl, rfl, ha⟩ | ⟨xs, i, hl, rfl, ha⟩ | ⟨sx, i, c, rfl, hn, rfl, ha, rfl⟩ | ⟨kvs, kk, hl, rfl, ha⟩ | ⟨kvs, ks, hl, rfl, ha⟩
    · obtain ⟨p, ys, rfl, sq, ra⟩ := hl.sq W2 r1
      obtain ⟨w, hw, rw'⟩ := atI_rel ra ha
      exact .inl (.inl ⟨p, ys, i, w, rfl, r2.int_inv, sq, hw, C2.now W2 rw' q⟩)
    · obtain ⟨p, ys, rfl, sq, ra⟩ := hl.sq W2 r1
      obtain ⟨w, hw, rw'⟩ := atI_rel ra ha
      exact .inl (.inr (.inl ⟨p, ys, i, w, rfl, r2.int_inv, sq, hw, C2.now W2 rw' q⟩))
    · exact .inl (.inr (.inr ⟨sx, i, c, r1.str_inv, r2.int_inv, hn, ha, C2.now W2 (.str _) q⟩))
    · obtain ⟨p, ys, rfl, rd, rp⟩ := hl.rd W2 r1
      rcases rp.val kk with ⟨n, _⟩ | ⟨d, w, h1, h2, h3⟩
      · rw [n] at ha; cases ha
      · rw [h1] at ha; cases ha
        exact .inr ⟨p, w, rfl, .inl ⟨ys, kk, rd, keyD_inv r2, h2.symm⟩, C2.now W2 h3 q⟩
    · obtain ⟨p, ys, rfl, rd, rp⟩ := hl.rd W2 r1
      rcases rp.val ks with ⟨n, _⟩ | ⟨d, w, h1, h2, h3⟩
      · rw [n] at ha; cases ha
      · rw [h1] at ha; cases ha
        obtain ⟨b, vs, rfl, hb, rb⟩ := r2.tup_inv
        exact .inr ⟨p, w, rfl, .inr ⟨ys, ks, b, rd, rfl, by rw [W2.ex _ _ hb, keysD_inv rb], h2.symm⟩, C2.now W2 h3 q⟩)
theorem ItD.l {N : NN} {x z : D} {xs : List D} {i : Int} (h : LV N x xs) (e : atI xs i = some z) : ItD N x (.int i) z := .inl ⟨xs, i, h, rfl, e⟩
theorem ItD.tu {N : NN} {x z : D} {xs : List D} {i : Int} (h : TV x xs) (e : atI xs i = some z) : ItD N x (.int i) z := .inr (.inl ⟨xs, i, h, rfl, e⟩)
theorem ItD.d {N : NN} {x z : D} {kvs : List (Key × D)} (k : Key) (h : DV N x kvs) (e : lkp kvs k = some z) : ItD N x (keyD k) z := .inr (.inr (.inr (.inl ⟨kvs, k, h, rfl, e⟩)))
theorem ItD.di {N : NN} {x z : D} {kvs : List (Key × D)} {i : Int} (h : DV N x kvs) (e : lkp kvs (.inl i) = some z) : ItD N x (.int i) z := ItD.d (.inl i) h e
theorem ItD.ds {N : NN} {x z : D} {kvs : List (Key × D)} {s : Str} (h : DV N x kvs) (e : lkp kvs (.inr s) = some z) : ItD N x (.str s) z := ItD.d (.inr s) h e
theorem ItD.dt {N : NN} {x z : D} {kvs : List (List Key × D)} (ks : List Key) (h : TDV N x kvs) (e : lkp kvs ks = some z) : ItD N x (.tup (ks.map keyD)) z := .inr (.inr (.inr (.inr ⟨kvs, ks, h, rfl, e⟩)))

/-! ### slices -/
def EvO (J : τ → Hp → Prop) (X : Cx) (o : Option Expr) (env : EnvD) (N : NN) (t : τ) (P : Option Int → NN → τ → Prop) : Prop :=
  match o with
  | none => P none N t
  | some e => EvE J X e env N t fun d N1 t1 => ∃ i, d = .int i ∧ P (some i) N1 t1
def wP (X : Cx) : Option Expr → TO
  | none => tNoPart
  | some e => tPart (wE X e)
theorem po_w : ∀ {o : Option Expr}, PO X o (wP X o)
  | none => po_none
  | some e => po_some pe_w
theorem EvO.go {o : Option Expr} {PO : Option Int → NN → τ → Prop} (h : EvO J X o env N t PO) {σ : L2.St} {H I : Hp} {Q : Option Int → Hp → Prop} (W : Wd J X.K I N t H) (S : Sl X.K I σ env)
    (C : ∀ i I' N' t' H', Ex I I' → Wd J X.K I' N' t' H' → PO i N' t' → Q i H') : wP X o σ H Q := by
  cases o with
  | none => exact C none I N t H (Ex.refl I) W h
  | some e =>
    exact h σ H I _ W S fun v d I1 N1 t1 H1 e1 W1 r ⟨i, ed, p⟩ => by
      subst ed
      exact ⟨i, r.int_inv, C _ I1 N1 t1 H1 e1 W1 p⟩
def cutD {α : Type} (xs : List α) (lo hi : Option Int) : List α := (xs.drop (HT.sIx xs.length 0 lo)).take (HT.sIx xs.length xs.length hi - HT.sIx xs.length 0 lo)
theorem cut_rel {K : PySem.W.Frag} {I : Hp} {ys : List V} {xs : List D} (r : RA K I ys xs) (lo hi : Option Int) : RA K I (cutV ys lo hi) (cutD xs lo hi) := by
  unfold cutV cutD
  rw [r.length]
  exact (r.drop _).take _
theorem cut_whole {α : Type} {xs : List α} {lo hi : Option Int} (h : HT.sIx xs.length 0 lo = 0 ∧ HT.sIx xs.length xs.length hi = xs.length) : cutD xs lo hi = xs := by
  unfold cutD
  rw [h.1, h.2]; simp
/-- x[lo:hi] is z -/
def SlD (N : NN) (x : D) (lo hi : Option Int) (z : D) : Prop :=
  (∃ xs, LV N x xs ∧ z = .lst (cutD xs lo hi)) ∨ (∃ xs, x = .tup xs ∧ z = .tup (cutD xs lo hi)) ∨ (∃ s, x = .str s ∧ s.length ≤ sizeLine ∧ z = .str (cutS s lo hi))
theorem ev_slice {a : Expr} {lo hi : Option Expr} {p2} (h : EvE J X a env N t fun x N1 t1 => EvO J X lo env N1 t1 fun i N2 t2 => EvO J X hi env N2 t2 fun j N3 t3 => ∃ z, SlD N3 x i j z ∧ P z N3 t3) : EvE J X (.Subscript a (.Slice lo hi none p2) pos) env N t P := fun σ H I Q W S C =>
  PE.w (pe_slice (SlR.or sl_list (SlR.or sl_tupA sl_str)) pe_w po_w po_w) (h σ H I _ W S fun v x I1 N1 t1 H1 e1 W1 r1 k => k.go W1 (S.mono e1) fun i I2 N2 t2 H2 e2 W2 k => k.go W2 (S.mono (e1.trans e2)) fun j I3 N3 t3 H3 e3 W3 ⟨z, hz, q⟩ => by
    have r1 := r1.mono (e2.trans e3)
    have C2 := C.ex ((e1.trans e2).trans e3)
    rcases hz with ⟨xs, hl, rfl⟩ | ⟨xs, rfl, rfl⟩ | ⟨s, rfl, hs, rfl⟩
    · obtain ⟨p, ys, rfl, sq, ra⟩ := hl.sq W3 r1
      refine .inl ⟨p, ys, rfl, sq, fun b hb => ?_⟩
      have en := Ex.new (o := .lst (cutV ys i j)) (W3.ifresh hb)
      exact C2 _ _ _ N3 t3 _ en (W3.newI hb) (.lst upd_same ((cut_rel ra i j).mono en)) q
    · obtain ⟨p, ys, rfl, hp, ra⟩ := r1.tup_inv
      refine .inr (.inl ⟨p, ys, rfl, SqT.of (W3.ex _ _ hp), fun hw => ?_, fun _ b hb => ?_⟩)
      · rw [ra.length] at hw
        rw [cut_whole hw] at q
        exact C2.now W3 r1 q
      · have en := Ex.new (o := .tup (cutV ys i j)) (W3.ifresh hb)
        exact C2 _ _ _ N3 t3 _ en (W3.newI hb) (.tup upd_same ((cut_rel ra i j).mono en)) q
    · exact .inr (.inr ⟨s, r1.str_inv, hs, C2.now W3 (.str _) q⟩))
/-- a slice of a list that is owned behind -/
theorem ev_sliceN {a : Expr} {lo hi : Option Expr} {p2} (h : EvE J X a env N t fun x N1 t1 => EvO J X lo env N1 t1 fun i N2 t2 => EvO J X hi env N2 t2 fun j N3 t3 => ∃ xs, LV N3 x xs ∧ ∀ p, N3 p = none → P (.ref p) (put N3 p (.lst (cutD xs i j))) t3) :
    EvE J X (.Subscript a (.Slice lo hi none p2) pos) env N t P := fun σ H I Q W S C =>
  PE.w (pe_slice sl_list pe_w po_w po_w) (h σ H I _ W S fun v x I1 N1 t1 H1 e1 W1 r1 k => k.go W1 (S.mono e1) fun i I2 N2 t2 H2 e2 W2 k => k.go W2 (S.mono (e1.trans e2)) fun j I3 N3 t3 H3 e3 W3 ⟨xs, hl, q⟩ => by
    have r1 := r1.mono (e2.trans e3)
    have C2 := C.ex ((e1.trans e2).trans e3)
    obtain ⟨p, ys, rfl, sq, ra⟩ := hl.sq W3 r1
    exact ⟨p, ys, rfl, sq, fun b hb => C2 _ _ I3 _ t3 _ (Ex.refl I3) (W3.newN (d := .lst (cutD xs i j)) hb ⟨_, upd_same, cut_rel ra i j⟩) (.ref b) (q b (W3.nfresh hb))⟩)

/-! ### attributes -/
theorem lookup_lkp {K : PySem.W.Frag} {I : Hp} {f : Str} {d : D} : ∀ {fs : List (Str × D)} {ys : List (Str × V)}, RP K I ys fs → fs.lookup f = some d → ∃ v, ys.lookup f = some v ∧ R K I v d
  | [], ys, h, e => by cases e
  | q :: fs, ys, h, e => by
    obtain ⟨v, r, rfl, a, b⟩ := h.inv
    obtain ⟨k, dd⟩ := q
    rw [List.lookup_cons] at e ⊢
    cases z : (f == k) with
    | true => rw [z] at e; cases e; exact ⟨v, rfl, a⟩
    | false => rw [z] at e; exact lookup_lkp b e
theorem ev_fld {e : Expr} {f : Str} (h : EvE J X e env N t fun x N1 t1 => ∃ C fs d, IV N1 x C fs ∧ Cls X.K C ∧ NoAttr X.K C f ∧ fs.lookup f = some d ∧ P d N1 t1) (hb : attributeBase e f X.env (eval e X.env) = eval e X.env := by rfl) : EvE J X (.Attribute e f pos) env N t P := fun σ H I Q W S C =>
  PE.w (pe_fld pe_w hb) (h σ H I _ W S fun v x I1 N1 t1 H1 e1 W1 r1 ⟨CC, fs, d, hi, hc, hn, hl, q⟩ => by
    obtain ⟨a, dx, ys, rfl, ha, rp⟩ := hi.at W1 r1
    obtain ⟨w, hw, rw'⟩ := lookup_lkp rp hl
    exact ⟨a, CC, dx, ys, w, rfl, ha, hc, hn, hw, (C.ex e1).now W1 rw' q⟩)
end
end Y
/-! Y, part 3: == of data of any depth, within one model; in; the operators of whole numbers, texts, lists, tuples. -/
namespace PySem.SeqAt
open AutoSeq1 (wpAny_loadPart')
open MeetsSeq MeetsSeq2 MeetsSeq3 SeqRoads2
/-- tuples, item by item, within one model -/
theorem yTupEq {P : Program} {ww : World} (p q : Addr) (xs ys : Array Value) (k k' : Nat) (d1 d2 : Option Addr) (s1 s2 : Array (Option Value)) (r : Nat → Bool) :
    MeetsIn P ww (Builtin.«tuple.__eq__» ⟨[.ref p, .ref q], []⟩)
      (fun B W z => z.heap.get? p = some { cls := .type "tuple", dict := d1, data := .seq xs k, slots := s1 } ∧ z.heap.get? q = some { cls := .type "tuple", dict := d2, data := .seq ys k', slots := s2 } ∧
        (∀ j (a : j < xs.size) (b : j < ys.size), EqP P ww B.in1 z xs[j] ys[j] (r j)) ∧
        W (.ok (.ret (.bool ((List.range (min xs.size ys.size)).all r && xs.size == ys.size)))) z) := by
  intro B W z hyp
  obtain ⟨zh, zg, zd, zt, zo⟩ := z
  obtain ⟨e1, e2, item, goal⟩ := hyp
  have sTT := AutoSeq1.sub_tuple_tuple
  have zl : (xs.toList.zip ys.toList).length = min xs.size ys.size := by simp
  wp_walk using wpAny_loadPart' e1, wpAny_loadPart' e2, wpAny_forIn_list _ (fun left st z' => st.1 = none ∧ z' = ⟨zh, zg, zd, zt, zo⟩ ∧ ∃ m, left = (xs.toList.zip ys.toList).drop m ∧
    W (.ok (.ret (.bool (((List.range (min xs.size ys.size)).drop m).all r && xs.size == ys.size)))) ⟨zh, zg, zd, zt, zo⟩) _
  case turn =>
    rintro ⟨y, x⟩ left st z' ⟨_, rfl, m, em, gm⟩
    have lt : m < (xs.toList.zip ys.toList).length := by
      rcases Nat.lt_or_ge m (xs.toList.zip ys.toList).length with c | c
      · exact c
      · rw [List.drop_of_length_le c] at em; cases em
    have lm : m < min xs.size ys.size := zl ▸ lt
    have l1 : m < xs.size := Nat.lt_of_lt_of_le lm (Nat.min_le_left _ _)
    have l2 : m < ys.size := Nat.lt_of_lt_of_le lm (Nat.min_le_right _ _)
    rw [List.drop_eq_getElem_cons lt] at em
    injection em with em1 em2
    have f1 : y = xs[m] := by simpa using congrArg Prod.fst em1
    have f2 : x = ys[m] := by simpa using congrArg Prod.snd em1
    subst f1 f2
    have sp : (List.range (min xs.size ys.size)).drop m = m :: (List.range (min xs.size ys.size)).drop (m + 1) := by simp [List.drop_eq_getElem_cons, lm]
    rw [sp, List.all_cons] at gm
    refine wpAny_bind (item m l1 l2 _ _ ?_)
    cases c : r m with
    | true =>
      rw [c] at gm
      wp_walk
      exact ⟨rfl, rfl, m + 1, em2, by simpa using gm⟩
    | false =>
      rw [c] at gm
      wp_walk
      simpa using gm
  case fin =>
    rintro ⟨o1, o2⟩ z' ⟨q1, rfl, m, em, gm⟩
    simp only at q1
    subst q1
    have ge : min xs.size ys.size ≤ m := by
      rcases Nat.lt_or_ge m (xs.toList.zip ys.toList).length with c | c
      · rw [List.drop_eq_getElem_cons c] at em; cases em
      · exact zl ▸ c
    rw [List.drop_of_length_le (by simpa using ge)] at gm
    wp_walk
    simpa [Builtin.Tuple.tupleCompareSizes] using gm
  case h =>
    exact ⟨rfl, rfl, 0, rfl, by simpa using goal⟩
theorem yRcTuples {P : Program} {ww : World} {B : Around} {z : Shared} {p q : Addr} {xs ys : Array Value} {r : Nat → Bool} (hp : z.heap.IsTuple p xs) (hq : z.heap.IsTuple q ys) (room : B.units < cLine)
    (item : ∀ j (a : j < xs.size) (b : j < ys.size), EqP P ww B.in1 z xs[j] ys[j] (r j)) (E Q : Value → Shared → Prop) (goal : Q (.bool ((List.range (min xs.size ys.size)).all r && xs.size == ys.size)) z) :
    wpAny (model P ww) B (richCompare .Eq (.ref p) (.ref q)) Q E z := by
  obtain ⟨⟨c1, d1, w1, s1⟩, g1, h1, k1, m1⟩ := id hp
  obtain ⟨⟨c2, d2, w2, s2⟩, g2, h2, k2, m2⟩ := id hq
  simp only at h1 m1 h2 m2
  subst h1 m1 h2 m2
  have t1 : z.TypeIs (.ref p) "tuple" := ⟨_, g1, rfl⟩
  have t2 : z.TypeIs (.ref q) "tuple" := ⟨_, g2, rfl⟩
  exact wpAny_richCompare_same_room (op := .Eq) t1 t2 F.slot_tuple_eq (call_meetsIn F.slot_tuple_eq t1 F.entry_tuple_eq (F.args_tuple_eq_2 _ _) (yTupEq p q xs ys k1 k2 d1 d2 s1 s2 r)
    ⟨g1, g2, item, show Value.bool ((List.range (min xs.size ys.size)).all r && xs.size == ys.size) ≠ Value.notImplemented ∧ Q (.bool ((List.range (min xs.size ys.size)).all r && xs.size == ys.size)) z from ⟨(fun x => nomatch x), goal⟩⟩) room
end PySem.SeqAt
namespace Y
open PySem PySem.Spec PyProof.Rows L2

/-! ### the shape of a datum -/
inductive Sh where
  | sc (v : V) | T (xs : List D) | L (xs : List D) | K (kvs : List (Key × D)) | o
def shp (N : NN) : D → Sh
  | .non => .sc .non
  | .bl b => .sc (.bl b)
  | .int i => .sc (.int i)
  | .str s => .sc (.str s)
  | .tup xs => .T xs
  | .ktup xs => .T xs
  | .lst xs => .L xs
  | .dk k => .K k
  | .ref p => match N p with
    | some (.lst xs) => .L xs
    | some (.dk k) => .K k
    | _ => .o
  | _ => .o
section
variable {τ : Type} {J : τ → Hp → Prop} {K : PySem.W.Frag} {I H : Hp} {N : NN} {t : τ} {v : V} {x : D}
theorem shp_ref {p : Addr} : (∃ xs, N p = some (.lst xs) ∧ shp N (.ref p) = .L xs) ∨ (∃ k, N p = some (.dk k) ∧ shp N (.ref p) = .K k) ∨ shp N (.ref p) = .o := by
  cases e : N p with
  | none => exact .inr (.inr (by simp [shp, e]))
  | some d => cases d with
    | lst xs => exact .inl ⟨xs, rfl, by simp [shp, e]⟩
    | dk k => exact .inr (.inl ⟨k, rfl, by simp [shp, e]⟩)
    | _ => exact .inr (.inr (by simp [shp, e]))
theorem shp_sc {u : V} (r : R K I v x) (h : shp N x = .sc u) : v = u ∧ flatV u = true := by
  cases x with
  | ref p => rcases shp_ref (N := N) (p := p) with ⟨xs, _, e⟩ | ⟨k, _, e⟩ | e <;> (rw [e] at h; cases h)
  | non => cases r; cases h; exact ⟨rfl, rfl⟩
  | bl b => cases r; cases h; exact ⟨rfl, rfl⟩
  | int i => cases r; cases h; exact ⟨rfl, rfl⟩
  | str z => cases r; cases h; exact ⟨rfl, rfl⟩
  | _ => cases h
theorem shp_T {xs : List D} (W : Wd J K I N t H) (r : R K I v x) (h : shp N x = .T xs) : ∃ a ys, v = .ref a ∧ SqT K H a ys ∧ RA K I ys xs := by
  cases x with
  | ref p => rcases shp_ref (N := N) (p := p) with ⟨xs, _, e⟩ | ⟨k, _, e⟩ | e <;> (rw [e] at h; cases h)
  | tup ys => cases h; exact TV.sq W r (.inl rfl)
  | ktup ys => cases h; exact TV.sq W r (.inr rfl)
  | _ => cases h
theorem shp_L {xs : List D} (W : Wd J K I N t H) (r : R K I v x) (h : shp N x = .L xs) : ∃ a ys, v = .ref a ∧ SqL K H a ys ∧ RA K I ys xs := by
  cases x with
  | lst ys => cases h; exact LV.sq W r .i
  | ref p => rcases shp_ref (N := N) (p := p) with ⟨xs, q, e⟩ | ⟨k, _, e⟩ | e <;> (rw [e] at h; cases h) <;> exact LV.sq W r (.o q)
  | _ => cases h
theorem shp_K {xs : List (Key × D)} (W : Wd J K I N t H) (r : R K I v x) (h : shp N x = .K xs) : ∃ a kvs, v = .ref a ∧ Rd H a (.dK kvs) ∧ RP K I kvs xs := by
  cases x with
  | dk ys => cases h; exact DV.rd W r .i
  | ref p => rcases shp_ref (N := N) (p := p) with ⟨xs, _, e⟩ | ⟨k, q, e⟩ | e <;> (rw [e] at h; cases h) <;> exact DV.rd W r (.o q)
  | _ => cases h
end

/-! ### equality -/
def eqL (f : D → D → Option Bool) : List D → List D → Option Bool
  | [], [] => some true
  | x :: xs, y :: ys => match f x y, eqL f xs ys with
    | some a, some b => some (a && b)
    | _, _ => none
  | _, _ => some false
def eqK (f : D → D → Option Bool) (ls : List (Key × D)) : List (Key × D) → Option Bool
  | [] => some true
  | q :: r => match lkp ls q.1 with
    | none => some false
    | some e => match f q.2 e, eqK f ls r with
      | some a, some b => some (a && b)
      | _, _ => none
theorem eqK_inv {f : D → D → Option Bool} {ls r : List (Key × D)} {q : Key × D} {b : Bool} (h : eqK f ls (q :: r) = some b) :
    (lkp ls q.1 = none ∧ b = false) ∨ ∃ e a c, lkp ls q.1 = some e ∧ f q.2 e = some a ∧ eqK f ls r = some c ∧ b = (a && c) := by
  unfold eqK at h
  split at h
  · next e => exact .inl ⟨e, (Option.some.inj h).symm⟩
  · next e he =>
    split at h
    · next a c h1 h2 => exact .inr ⟨e, a, c, he, h1, h2, (Option.some.inj h).symm⟩
    · cases h
def eqM (f : D → D → Option Bool) : Sh → Sh → Option Bool
  | .sc v, .sc u => some (eqV v u)
  | .sc _, .T _ => some false
  | .sc _, .L _ => some false
  | .T _, .sc _ => some false
  | .L _, .sc _ => some false
  | .L _, .T _ => some false
  | .T _, .L _ => some false
  | .T xs, .T ys => eqL f xs ys
  | .L xs, .L ys => if xs.length = ys.length then eqL f xs ys else some false
  | .K ks, .K ls => if ks.length = ls.length then eqK f ls ks else some false
  | _, _ => none
def eqF (N : NN) : Nat → D → D → Option Bool
  | 0, _, _ => none
  | n + 1, a, b => eqM (eqF N n) (shp N a) (shp N b)

theorem all_cons_range (r : Nat → Bool) (n : Nat) : (List.range (n + 1)).all r = (r 0 && (List.range n).all fun i => r (i + 1)) := by
  rw [List.range_succ_eq_map, List.all_cons, List.all_map]
  rfl
section
variable {X : Cx} {pins : List (Addr × Obj)} {σ : L2.St} {H I : Hp} {s : Shared} {τ : Type} {J : τ → Hp → Prop} {N : NN} {t : τ}
theorem eqL_run {K : PySem.W.Frag} {G : Value → Value → Bool → Prop} {f : D → D → Option Bool} (ih : ∀ a b x y v u k, f a b = some k → R K I x a → R K I y b → RelV x v → RelV y u → G v u k) :
    ∀ {xs ys : List D} {vs us : List V} {as bs : List Value} {k : Bool}, eqL f xs ys = some k → RA K I vs xs → RA K I us ys → Vals vs as → Vals us bs →
      ∃ r : Nat → Bool, (∀ j (h1 : j < as.length) (h2 : j < bs.length), G as[j] bs[j] (r j)) ∧ ((List.range (min as.length bs.length)).all r && as.length == bs.length) = k
  | [], [], _, _, _, _, _, e, h1, h2, r1, r2 => by
    cases h1; cases h2; cases r1; cases r2; cases e
    exact ⟨fun _ => true, fun j h => absurd h (Nat.not_lt_zero j), rfl⟩
  | x :: xs, y :: ys, _, _, _, _, _, e, h1, h2, r1, r2 => by
    cases h1 with
    | cons a1 b1 =>
      cases h2 with
      | cons a2 b2 =>
        cases r1 with
        | cons c1 d1 =>
          cases r2 with
          | cons c2 d2 =>
            rename_i ux uxs uy uys
            unfold eqL at e
            cases q1 : f x y with
            | none => rw [q1] at e; cases e
            | some k1 =>
              cases q2 : eqL f xs ys with
              | none => rw [q1, q2] at e; cases e
              | some k2 =>
                rw [q1, q2] at e
                cases e
                obtain ⟨r, hr, er⟩ := eqL_run ih q2 b1 b2 d1 d2
                have h0 := ih _ _ _ _ _ _ _ q1 a1 a2 c1 c2
                refine ⟨fun j => match j with | 0 => k1 | j + 1 => r j, fun j l1 l2 => ?_, ?_⟩
                · cases j with
                  | zero => exact h0
                  | succ j => exact hr j (Nat.lt_of_succ_lt_succ l1) (Nat.lt_of_succ_lt_succ l2)
                · rw [List.length_cons, List.length_cons, Nat.succ_min_succ, all_cons_range]
                  rw [← er, Bool.and_assoc]
                  congr 1
                  congr 1
                  simp
  | [], y :: ys, _, _, _, _, _, e, h1, h2, r1, r2 => by
    cases h1
    cases r1
    cases h2
    cases r2
    cases e
    exact ⟨fun _ => true, fun j h => absurd h (Nat.not_lt_zero j), by simp⟩
  | x :: xs, [], _, _, _, _, _, e, h1, h2, r1, r2 => by
    cases h1
    cases r1
    cases h2
    cases r2
    cases e
    exact ⟨fun _ => true, fun j _ h => absurd h (Nat.not_lt_zero j), by simp⟩
theorem eqL_len {f : D → D → Option Bool} : ∀ {xs ys : List D}, eqL f xs ys = some true → xs.length = ys.length
  | [], [], _ => rfl
  | x :: xs, y :: ys, h => by
    unfold eqL at h
    cases q1 : f x y with
    | none => rw [q1] at h; cases h
    | some a =>
      cases q2 : eqL f xs ys with
      | none => rw [q1, q2] at h; cases h
      | some b =>
        rw [q1, q2] at h
        have hb : b = true := by cases a <;> cases b <;> simp_all
        rw [hb] at q2
        rw [List.length_cons, List.length_cons, eqL_len q2]
  | [], _ :: _, h => by cases h
  | _ :: _, [], h => by cases h
theorem eqK_run {K : PySem.W.Frag} {P : Program} {w : World} {A : Around} {f : D → D → Option Bool} (ih : ∀ a b x y v u k, f a b = some k → R K I x a → R K I y b → RelV x v → RelV y u → SeqAt.EqP P w A s v u k)
    {ls : List (Key × D)} {lv : List (Key × V)} {lb : List (Key × Value)} (rl : RP K I lv ls) (rb : KV lv lb) : ∀ {ks : List (Key × D)} {kv : List (Key × V)} {kb : List (Key × Value)} {b : Bool}, eqK f ls ks = some b → RP K I kv ks → KV kv kb →
      PySem.W.KeqHitsP P w A s lb kb b
  | [], kv, kb, b, e, h, r => by
    cases kv with
    | nil =>
      have r : Paired _ _ _ := r
      cases r
      cases e
      exact .nil
    | cons p q => have := h.1; simp at this
  | q :: ks, kv, kb, b, e, h, r => by
    obtain ⟨v, l, rfl, a, hr⟩ := h.inv
    have r : Paired _ _ _ := r
    cases r with
    | @cons _ z _ zs c d =>
      obtain ⟨key, vz⟩ := z
      obtain ⟨ek, rv⟩ := c
      have ek : q.1 = key := ek
      have rel := rb.val q.1
      rcases eqK_inv e with ⟨n1, rfl⟩ | ⟨d2, k1, k2, n1, q1, q2, rfl⟩
      · rcases rl.val q.1 with ⟨_, n2⟩ | ⟨_, _, n3, _, _⟩
        · rw [n2] at rel
          have hn : valueAt lb q.1 = none := by
            cases z : valueAt lb q.1 with
            | none => rfl
            | some y => rw [z] at rel; exact rel.elim
          rw [ek] at hn
          exact .miss hn
        · rw [n1] at n3; cases n3
      · rcases rl.val q.1 with ⟨n3, _⟩ | ⟨d3, v2, n3, n2, n4⟩
        · rw [n1] at n3; cases n3
        · rw [n1] at n3; cases n3
          rw [n2] at rel
          obtain ⟨y, hy, ry⟩ := rel.some_of
          rw [ek] at hy
          exact .hit hy (ih _ _ _ _ _ _ _ q1 a n4 rv ry) (eqK_run ih rl rb q2 hr d)
theorem eqL_same {K : PySem.W.Frag} {f : D → D → Option Bool} (ih : ∀ a b x k, f a b = some k → R K I x a → R K I x b → k = true) : ∀ {xs ys : List D} {vs : List V} {k : Bool}, eqL f xs ys = some k → RA K I vs xs → RA K I vs ys → k = true
  | [], [], _, _, e, _, _ => by cases e; rfl
  | x :: xs, y :: ys, _, k, e, h1, h2 => by
    cases h1 with
    | cons a1 b1 =>
      cases h2 with
      | cons a2 b2 =>
        unfold eqL at e
        cases q1 : f x y with
        | none => rw [q1] at e; cases e
        | some k1 =>
          cases q2 : eqL f xs ys with
          | none => rw [q1, q2] at e; cases e
          | some k2 =>
            rw [q1, q2] at e
            cases e
            rw [ih _ _ _ _ q1 a1 a2, eqL_same ih q2 b1 b2]; rfl
  | [], _ :: _, _, _, e, h1, h2 => by cases h1; cases h2
  | _ :: _, [], _, _, e, h1, h2 => by cases h2; cases h1
theorem eqK_same {K : PySem.W.Frag} {f : D → D → Option Bool} (ih : ∀ a b x k, f a b = some k → R K I x a → R K I x b → k = true) {ls : List (Key × D)} {kv : List (Key × V)} (rl : RP K I kv ls) (nd : (kv.map (·.1)).Nodup) :
    ∀ {ks : List (Key × D)} {mv : List (Key × V)} {b : Bool}, eqK f ls ks = some b → RP K I mv ks → (∀ q ∈ mv, q ∈ kv) → b = true
  | [], mv, b, e, h, _ => by cases e; rfl
  | q :: ks, mv, b, e, h, hm => by
    obtain ⟨v, l, rfl, a, hr⟩ := h.inv
    have inn : (q.1, v) ∈ kv := hm _ List.mem_cons_self
    have vv : valV kv q.1 = some v := by
      have gen : ∀ {m : List (Key × V)}, (m.map (·.1)).Nodup → (q.1, v) ∈ m → valV m q.1 = some v := by
        intro m
        induction m with
        | nil => intro _ h; cases h
        | cons p r ihm =>
          intro nd h
          rw [List.map_cons, List.nodup_cons] at nd
          rcases List.mem_cons.mp h with e | h
          · subst e; exact valV_pos rfl
          · rw [valV_neg (fun z => nd.1 (by rw [z]; exact List.mem_map.mpr ⟨_, h, rfl⟩))]
            exact ihm nd.2 h
      exact gen nd inn
    rcases rl.val q.1 with ⟨_, n2⟩ | ⟨d2, v2, n1, n2, n3⟩
    · rw [vv] at n2; cases n2
    · rw [vv] at n2; cases n2
      rcases eqK_inv e with ⟨m1, _⟩ | ⟨d3, k1, k2, m1, q1, q2, rfl⟩
      · rw [n1] at m1; cases m1
      · rw [n1] at m1; cases m1
        rw [ih _ _ _ _ q1 a n3, eqK_same ih rl nd q2 hr fun z hz => hm z (List.mem_cons_of_mem _ hz)]; rfl
theorem eqV_self {v : V} (h : flatV v = true) : eqV v v = true := by
  cases v <;> first
    | (cases h; done)
    | rfl
    | (simp [eqV])
theorem kv_keys {κ : Type} {kvs : List (κ × V)} {vs : List (κ × Value)} (h : KV kvs vs) : kvs.map (·.1) = vs.map (·.1) := by
  unfold KV at h
  induction h with
  | nil => rfl
  | cons hh _ ih => rw [List.map_cons, List.map_cons, ih, hh.1]
theorem keys_nodup (Iv : Inv X pins σ H s) {a : Addr} {kvs : List (Key × V)} (e : Rd H a (.dK kvs)) : (kvs.map (·.1)).Nodup := by
  obtain ⟨_, _, vs, rel, _, _, _, _, _, _, _, _, nd⟩ := dk_rd Iv.hok e
  rw [kv_keys rel]; exact nd
theorem rd_inj {H : Hp} {a : Addr} {k1 k2 : List (Key × V)} (h1 : Rd H a (.dK k1)) (h2 : Rd H a (.dK k2)) : k1 = k2 := by
  rcases h1 with h1 | ⟨o1, h1⟩ <;> rcases h2 with h2 | ⟨o2, h2⟩ <;> (rw [h1] at h2; cases h2) <;> rfl
theorem eqF_same (Iv : Inv X pins σ H s) (W : Wd J X.K I N t H) : ∀ (n : Nat) (a b : D) (x : V) (k : Bool), eqF N n a b = some k → R X.K I x a → R X.K I x b → k = true
  | 0, _, _, _, _, h, _, _ => by cases h
  | n + 1, a, b, x, k, h, ra, rb => by
    have ih := eqF_same Iv W n
    unfold eqF at h
    cases sa : shp N a with
    | o => rw [sa] at h; cases h
    | sc va =>
      obtain ⟨rfl, fa⟩ := shp_sc ra sa
      cases sb : shp N b with
      | sc vb =>
        obtain ⟨rfl, fb⟩ := shp_sc rb sb
        rw [sa, sb] at h
        cases h
        exact eqV_self fa
      | T ys => obtain ⟨q, zs, rfl, sq, _⟩ := shp_T W rb sb; cases fa
      | L ys => obtain ⟨q, zs, rfl, sq, _⟩ := shp_L W rb sb; cases fa
      | _ => rw [sa, sb] at h; cases h
    | T xs =>
      obtain ⟨p, zs, rfl, sp, rp⟩ := shp_T W ra sa
      cases sb : shp N b with
      | sc vb => obtain ⟨rfl, fb⟩ := shp_sc rb sb; cases fb
      | T ys =>
        obtain ⟨q, ws, e, sq, rq⟩ := shp_T W rb sb
        cases e
        have e1 := Iv.tuple_inj sp sq
        subst e1
        rw [sa, sb] at h
        exact eqL_same ih (show eqL (eqF N n) xs ys = some k from h) rp rq
      | L ys =>
        obtain ⟨q, ws, e, sq, rq⟩ := shp_L W rb sb
        cases e
        obtain ⟨_, _, h1, _⟩ := Iv.tuple sp
        obtain ⟨_, _, h2, _⟩ := Iv.list sq
        exact absurd rfl (SeqAt.ne_of_list_tuple h2.isList h1)
      | _ => rw [sa, sb] at h; cases h
    | L xs =>
      obtain ⟨p, zs, rfl, sp, rp⟩ := shp_L W ra sa
      cases sb : shp N b with
      | sc vb => obtain ⟨rfl, fb⟩ := shp_sc rb sb; cases fb
      | L ys =>
        obtain ⟨q, ws, e, sq, rq⟩ := shp_L W rb sb
        cases e
        have e1 := Iv.list_inj sp sq
        subst e1
        rw [sa, sb] at h
        have h : (if xs.length = ys.length then eqL (eqF N n) xs ys else some false) = some k := h
        rw [if_pos (rp.length.symm.trans rq.length)] at h
        exact eqL_same ih h rp rq
      | T ys =>
        obtain ⟨q, ws, e, sq, rq⟩ := shp_T W rb sb
        cases e
        obtain ⟨_, _, h1, _⟩ := Iv.list sp
        obtain ⟨_, _, h2, _⟩ := Iv.tuple sq
        exact absurd rfl (SeqAt.ne_of_list_tuple h1.isList h2)
      | _ => rw [sa, sb] at h; cases h
    | K xs =>
      obtain ⟨p, zs, rfl, sp, rp⟩ := shp_K W ra sa
      cases sb : shp N b with
      | K ys =>
        obtain ⟨q, ws, e, sq, rq⟩ := shp_K W rb sb
        cases e
        have e1 := rd_inj sp sq
        subst e1
        rw [sa, sb] at h
        have h : (if xs.length = ys.length then eqK (eqF N n) ys xs else some false) = some k := h
        rw [if_pos (rp.length.symm.trans rq.length)] at h
        exact eqK_same ih rq (keys_nodup Iv sq) h rp fun _ z => z
      | _ => rw [sa, sb] at h; cases h
theorem eq_run (Iv : Inv X pins σ H s) (W : Wd J X.K I N t H) : ∀ (n : Nat) (A : Around), A.units + n < cLine → ∀ (a b : D) (x y : V) (v u : Value) (k : Bool), eqF N n a b = some k → R X.K I x a → R X.K I y b → RelV x v → RelV y u →
    SeqAt.EqP X.prog X.w A s v u k
  | 0, _, _, _, _, _, _, _, _, _, h, _, _, _, _ => by cases h
  | n + 1, A, hu, a, b, x, y, v, u, k, h, ra, rb, rx, ry => by
    have ih : ∀ a b x y v u k, eqF N n a b = some k → R X.K I x a → R X.K I y b → RelV x v → RelV y u → SeqAt.EqP X.prog X.w A.in1 s v u k := fun a b x y v u k => eq_run Iv W n A.in1 (by show A.units + 1 + n < cLine; omega) a b x y v u k
    have hu1 : A.units < cLine := by omega
    unfold eqF at h
    cases sa : shp N a with
    | o => rw [sa] at h; cases h
    | sc va =>
      obtain ⟨rfl, fa⟩ := shp_sc ra sa
      cases sb : shp N b with
      | sc vb =>
        obtain ⟨rfl, fb⟩ := shp_sc rb sb
        rw [sa, sb] at h
        cases h
        exact (eqAt_V rx ry fa fb).eqP
      | T ys =>
        obtain ⟨q, zs, rfl, sq, _⟩ := shp_T W rb sb
        rw [sa, sb] at h
        cases h
        cases ry
        obtain ⟨its, _, ht, _⟩ := Iv.tuple sq
        cases x with
        | non => cases rx; exact (SeqAt.EqAt.none_tuple ht hu1).eqP
        | bl c => cases rx; exact (SeqAt.EqAt.bool_tuple c ht hu1).eqP
        | int i => obtain ⟨tk, rfl⟩ := rx; exact (SeqAt.EqAt.int_tuple i tk ht hu1).eqP
        | str z => obtain ⟨tk, rfl⟩ := rx; exact (SeqAt.EqAt.str_tuple z tk ht hu1).eqP
        | _ => cases fa
      | L ys =>
        obtain ⟨q, zs, rfl, sq, _⟩ := shp_L W rb sb
        rw [sa, sb] at h
        cases h
        cases ry
        obtain ⟨its, _, ht, _⟩ := Iv.list sq
        cases x with
        | non => cases rx; exact (SeqAt.EqAt.none_list ht.isList hu1).eqP
        | bl c => cases rx; exact (SeqAt.EqAt.bool_list c ht.isList hu1).eqP
        | int i => obtain ⟨tk, rfl⟩ := rx; exact (SeqAt.EqAt.int_list i tk ht.isList hu1).eqP
        | str z => obtain ⟨tk, rfl⟩ := rx; exact (SeqAt.EqAt.str_list z tk ht.isList hu1).eqP
        | _ => cases fa
      | _ => rw [sa, sb] at h; cases h
    | T xs =>
      obtain ⟨p, zs, rfl, sp, rp⟩ := shp_T W ra sa
      cases rx
      obtain ⟨its, ri, ht, _⟩ := Iv.tuple sp
      cases sb : shp N b with
      | sc vb =>
        obtain ⟨rfl, fb⟩ := shp_sc rb sb
        rw [sa, sb] at h
        cases h
        cases y with
        | non => cases ry; exact (SeqAt.EqAt.tuple_none ht hu1).eqP
        | bl c => cases ry; exact (SeqAt.EqAt.tuple_bool c ht hu1).eqP
        | int i => obtain ⟨tk, rfl⟩ := ry; exact (SeqAt.EqAt.tuple_int i tk ht hu1).eqP
        | str z => obtain ⟨tk, rfl⟩ := ry; exact (SeqAt.EqAt.tuple_str z tk ht hu1).eqP
        | _ => cases fb
      | T ys =>
        obtain ⟨q, ws, rfl, sq, rq⟩ := shp_T W rb sb
        cases ry
        obtain ⟨jts, rj, hj, _⟩ := Iv.tuple sq
        rw [sa, sb] at h
        obtain ⟨r, hr, er⟩ := eqL_run ih (show eqL (eqF N n) xs ys = some k from h) rp rq ri rj
        by_cases e : p = q
        · subst e
          have ek := eqF_same Iv W (n + 1) a b (.ref p) k (by unfold eqF; rw [sa, sb]; exact h) ra rb
          subst ek
          exact (SeqAt.EqAt.same _).eqP
        · refine SeqAt.eqP_refs e fun E Q hq => SeqAt.yRcTuples ht hj hu1 (r := r) (fun j h1 h2 => ?_) E Q ?_
          · have z := hr j (by simpa using h1) (by simpa using h2)
            simpa using z
          · rw [List.size_toArray, List.size_toArray, er]
            exact hq
      | L ys =>
        obtain ⟨q, ws, rfl, sq, rq⟩ := shp_L W rb sb
        cases ry
        obtain ⟨jts, rj, hj, _⟩ := Iv.list sq
        rw [sa, sb] at h
        cases h
        exact (SeqAt.EqAt.tuple_list ht hj.isList hu1).eqP
      | _ => rw [sa, sb] at h; cases h
    | L xs =>
      obtain ⟨p, zs, rfl, sp, rp⟩ := shp_L W ra sa
      cases rx
      obtain ⟨its, ri, ht, _⟩ := Iv.list sp
      cases sb : shp N b with
      | sc vb =>
        obtain ⟨rfl, fb⟩ := shp_sc rb sb
        rw [sa, sb] at h
        cases h
        cases y with
        | non => cases ry; exact (SeqAt.EqAt.list_none ht.isList hu1).eqP
        | bl c => cases ry; exact (SeqAt.EqAt.list_bool c ht.isList hu1).eqP
        | int i => obtain ⟨tk, rfl⟩ := ry; exact (SeqAt.EqAt.list_int i tk ht.isList hu1).eqP
        | str z => obtain ⟨tk, rfl⟩ := ry; exact (SeqAt.EqAt.list_str z tk ht.isList hu1).eqP
        | _ => cases fb
      | L ys =>
        obtain ⟨q, ws, rfl, sq, rq⟩ := shp_L W rb sb
        cases ry
        obtain ⟨jts, rj, hj, _⟩ := Iv.list sq
        have h0 := h
        rw [sa, sb] at h
        have h : (if xs.length = ys.length then eqL (eqF N n) xs ys else some false) = some k := h
        by_cases e : p = q
        · subst e
          have ek := eqF_same Iv W (n + 1) a b (.ref p) k (by unfold eqF; exact h0) ra rb
          subst ek
          exact (SeqAt.EqAt.same _).eqP
        · have l1 : its.toArray.size = xs.length := by rw [List.size_toArray, ← ri.length, rp.length]
          have l2 : jts.toArray.size = ys.length := by rw [List.size_toArray, ← rj.length, rq.length]
          by_cases el : xs.length = ys.length
          · rw [if_pos el] at h
            obtain ⟨r, hr, er⟩ := eqL_run ih h rp rq ri rj
            refine SeqAt.eqP_refs e fun E Q hq => SeqAt.rcP_lists ht.isList hj.isList (by rw [l1, l2]; exact el) hu1 (e := r) (fun j h1 h2 => ?_) E Q ?_
            · have z := hr j (by simpa using h1) (by simpa using h2)
              simpa using z
            · have ez : its.length = jts.length := by
                have := l1; have := l2; simp at *; omega
              rw [ez, Nat.min_self, show (jts.length == jts.length) = true from by simp, Bool.and_true] at er
              rw [List.size_toArray, ez, er]
              exact hq
          · rw [if_neg el] at h
            cases h
            refine SeqAt.eqP_refs e fun E Q hq => SeqAt.RcAt.lists_lengths ht.isList hj.isList (by rw [l1, l2]; simpa using el) hu1 _ _ E Q hq
      | T ys =>
        obtain ⟨q, ws, rfl, sq, rq⟩ := shp_T W rb sb
        cases ry
        obtain ⟨jts, rj, hj, _⟩ := Iv.tuple sq
        rw [sa, sb] at h
        cases h
        exact (SeqAt.EqAt.list_tuple ht.isList hj hu1).eqP
      | _ => rw [sa, sb] at h; cases h
    | K xs =>
      obtain ⟨p, zs, rfl, sp, rp⟩ := shp_K W ra sa
      cases rx
      cases sb : shp N b with
      | K ys =>
        obtain ⟨q, ws, rfl, sq, rq⟩ := shp_K W rb sb
        cases ry
        have h0 := h
        rw [sa, sb] at h
        have h : (if xs.length = ys.length then eqK (eqF N n) ys xs else some false) = some k := h
        by_cases e : p = q
        · subst e
          have ek := eqF_same Iv W (n + 1) a b (.ref p) k (by unfold eqF; exact h0) ra rb
          subst ek
          exact (SeqAt.EqAt.same _).eqP
        · obtain ⟨_, ya, va, kra, da⟩ := dk_rd Iv.hok sp
          obtain ⟨_, yb, vb, krb, db⟩ := dk_rd Iv.hok sq
          have l1 : va.length = xs.length := by rw [← Paired.length kra, rp.length]
          have l2 : vb.length = ys.length := by rw [← Paired.length krb, rq.length]
          by_cases el : xs.length = ys.length
          · rw [if_pos el] at h
            refine SeqAt.eqP_refs e fun E Q hq => PySem.W.rcP_dicts (knd := mixKind X.prog X.w) (r := k) ya yb da db hu1 (fun _ => eqK_run ih rq krb h rp kra) E Q ?_
            rw [show (va.length == vb.length) = true from by rw [l1, l2]; simpa using el, Bool.true_and]
            exact hq
          · rw [if_neg el] at h
            cases h
            refine SeqAt.eqP_refs e fun E Q hq => PySem.W.rcP_dicts (knd := mixKind X.prog X.w) (r := true) ya yb da db hu1 (fun z => absurd (by rw [← l1, ← l2]; exact z) el) E Q ?_
            rw [show (va.length == vb.length) = false from by rw [l1, l2]; simpa using el, Bool.false_and]
            exact hq
      | _ => rw [sa, sb] at h; cases h
end
end Y
/-! Y, part 4: comparisons and operators as rules over data. -/
namespace PySem.SeqAt
open AutoSeq1 (wpAny_loadPart')
open MeetsSeq MeetsSeq2 MeetsSeq3 SeqRoads2
/-- tuples that may differ, within one model -/
theorem yTupNe {P : Program} {ww : World} (p q : Addr) (xs ys : Array Value) (k k' : Nat) (d1 d2 : Option Addr) (s1 s2 : Array (Option Value)) (r : Nat → Bool) :
    MeetsIn P ww (Builtin.«tuple.__ne__» ⟨[.ref p, .ref q], []⟩)
      (fun B W z => z.heap.get? p = some { cls := .type "tuple", dict := d1, data := .seq xs k, slots := s1 } ∧ z.heap.get? q = some { cls := .type "tuple", dict := d2, data := .seq ys k', slots := s2 } ∧
        (∀ j (a : j < xs.size) (b : j < ys.size), EqP P ww B.in1 z xs[j] ys[j] (r j)) ∧
        W (.ok (.ret (.bool (!((List.range (min xs.size ys.size)).all r && xs.size == ys.size))))) z) := by
  intro B W z hyp
  obtain ⟨zh, zg, zd, zt, zo⟩ := z
  obtain ⟨e1, e2, item, goal⟩ := hyp
  have sTT := AutoSeq1.sub_tuple_tuple
  have zl : (xs.toList.zip ys.toList).length = min xs.size ys.size := by simp
  wp_walk using wpAny_loadPart' e1, wpAny_loadPart' e2, wpAny_forIn_list _ (fun left st z' => st.1 = none ∧ z' = ⟨zh, zg, zd, zt, zo⟩ ∧ ∃ m, left = (xs.toList.zip ys.toList).drop m ∧
    W (.ok (.ret (.bool (!(((List.range (min xs.size ys.size)).drop m).all r && xs.size == ys.size))))) ⟨zh, zg, zd, zt, zo⟩) _
  case turn =>
    rintro ⟨y, x⟩ left st z' ⟨_, rfl, m, em, gm⟩
    have lt : m < (xs.toList.zip ys.toList).length := by
      rcases Nat.lt_or_ge m (xs.toList.zip ys.toList).length with c | c
      · exact c
      · rw [List.drop_of_length_le c] at em; cases em
    have lm : m < min xs.size ys.size := zl ▸ lt
    have l1 : m < xs.size := Nat.lt_of_lt_of_le lm (Nat.min_le_left _ _)
    have l2 : m < ys.size := Nat.lt_of_lt_of_le lm (Nat.min_le_right _ _)
    rw [List.drop_eq_getElem_cons lt] at em
    injection em with em1 em2
    have f1 : y = xs[m] := by simpa using congrArg Prod.fst em1
    have f2 : x = ys[m] := by simpa using congrArg Prod.snd em1
    subst f1 f2
    have sp : (List.range (min xs.size ys.size)).drop m = m :: (List.range (min xs.size ys.size)).drop (m + 1) := by simp [List.drop_eq_getElem_cons, lm]
    rw [sp, List.all_cons] at gm
    refine wpAny_bind (item m l1 l2 _ _ ?_)
    cases c : r m with
    | true =>
      rw [c] at gm
      wp_walk
      exact ⟨rfl, rfl, m + 1, em2, by simpa using gm⟩
    | false =>
      rw [c] at gm
      wp_walk
      simpa using gm
  case fin =>
    rintro ⟨o1, o2⟩ z' ⟨q1, rfl, m, em, gm⟩
    simp only at q1
    subst q1
    have ge : min xs.size ys.size ≤ m := by
      rcases Nat.lt_or_ge m (xs.toList.zip ys.toList).length with c | c
      · rw [List.drop_eq_getElem_cons c] at em; cases em
      · exact zl ▸ c
    rw [List.drop_of_length_le (by simpa using ge)] at gm
    wp_walk
    simpa [Builtin.Tuple.tupleCompareSizes, bne] using gm
  case h =>
    exact ⟨rfl, rfl, 0, rfl, by simpa using goal⟩
theorem yRcTuplesNe {P : Program} {ww : World} {B : Around} {z : Shared} {p q : Addr} {xs ys : Array Value} {r : Nat → Bool} (hp : z.heap.IsTuple p xs) (hq : z.heap.IsTuple q ys) (room : B.units < cLine)
    (item : ∀ j (a : j < xs.size) (b : j < ys.size), EqP P ww B.in1 z xs[j] ys[j] (r j)) (E Q : Value → Shared → Prop) (goal : Q (.bool (!((List.range (min xs.size ys.size)).all r && xs.size == ys.size))) z) :
    wpAny (model P ww) B (richCompare .NotEq (.ref p) (.ref q)) Q E z := by
  obtain ⟨⟨c1, d1, w1, s1⟩, g1, h1, k1, m1⟩ := id hp
  obtain ⟨⟨c2, d2, w2, s2⟩, g2, h2, k2, m2⟩ := id hq
  simp only at h1 m1 h2 m2
  subst h1 m1 h2 m2
  have t1 : z.TypeIs (.ref p) "tuple" := ⟨_, g1, rfl⟩
  have t2 : z.TypeIs (.ref q) "tuple" := ⟨_, g2, rfl⟩
  exact wpAny_richCompare_same_room (op := .NotEq) t1 t2 F.slot_tuple_ne (call_meetsIn F.slot_tuple_ne t1 F.entry_tuple_ne (F.args_tuple_ne_2 _ _) (yTupNe p q xs ys k1 k2 d1 d2 s1 s2 r)
    ⟨g1, g2, item, show Value.bool (!((List.range (min xs.size ys.size)).all r && xs.size == ys.size)) ≠ Value.notImplemented ∧ Q (.bool (!((List.range (min xs.size ys.size)).all r && xs.size == ys.size))) z from ⟨(fun x => nomatch x), goal⟩⟩) room
end PySem.SeqAt
namespace PySem.W
open PySem PySem.Spec
theorem yDictsNe {P : Program} {ww : World} {κ : Type} [DecidableEq κ] {knd : KeyKind P ww κ} {B : Around} {z : Shared} {p q : Addr} {kp kq : List (κ × Value)} {r : Bool} (np : (p == sysModules) = false) (nq : (q == sysModules) = false)
    (dp : z.heap.DictOf knd p kp) (dq : z.heap.DictOf knd q kq) (room : B.units < cLine) (hits : kp.length = kq.length → KeqHitsP P ww B.in1 z kq kp r) (E Q : Value → Shared → Prop) (goal : Q (.bool (!(kp.length == kq.length && r))) z) :
    wpAny (model P ww) B (richCompare .NotEq (.ref p) (.ref q)) Q E z := by
  refine wpAny_richCompare_same_room (op := .NotEq) dp.typeIs dq.typeIs PySem.F.slot_dict_ne (wpAny_call_entry PySem.F.slot_dict_ne dp.typeIs PySem.F.entry_dict_ne ?_ (PySem.F.args_dict_ne_2 _ _)) room
  show wpAny _ _ (Builtin.Dict.dictSlotArgs "__ne__" ⟨[.ref p, .ref q], []⟩ >>= _) _ _ z
  refine wpAny_bind ?_
  unfold Builtin.Dict.dictSlotArgs
  refine wpAny_bind (wpAny_notOrdered_dict dp.typeIs ?_)
  show wpAny _ _ (pure (Value.ref p, Value.ref q)) _ _ z
  refine wpAny_pure (wpAny_bind (wpAny_isInstance (T := "dict") dq.typeIs PySem.F.sub_dict_dict ?_))
  simp only [Bool.not_true, Bool.false_eq_true, if_false]
  refine wpAny_bind (wpAny_pure (wpAny_bind (wpAny_pure (wpAny_bind (samePairsP np nq dp dq hits ?_)))))
  refine wpAny_pure ⟨_, rfl, ?_, ?_⟩
  · exact fun x => nomatch x
  · cases h : (kp.length == kq.length && r) <;> (rw [h] at goal; exact goal)
end PySem.W
namespace Y
open PySem PySem.Spec PyProof.Rows L2

/-! ### == and != at the top -/
theorem rc_V {A : Around} {s : Shared} {y x : V} {u v : Value} (ry : RelV y u) (rx : RelV x v) (fy : flatV y = true) (fx : flatV x = true) : SeqAt.RcAt A s u v (eqV y x) := by
  cases y with
  | non =>
    cases ry
    cases x with
    | non => cases rx; exact .none_none
    | bl b => cases rx; exact .none_bool b
    | int b => obtain ⟨t, rfl⟩ := rx; exact .none_int b t
    | str b => obtain ⟨t, rfl⟩ := rx; exact .none_str b t
    | _ => cases fx
  | bl a =>
    cases ry
    cases x with
    | non => cases rx; exact .bool_none a
    | bl b => cases rx; exact .bool_bool a b
    | int b => obtain ⟨t, rfl⟩ := rx; exact .bool_int a b t
    | str b => obtain ⟨t, rfl⟩ := rx; exact .bool_str a b t
    | _ => cases fx
  | int a =>
    obtain ⟨t', rfl⟩ := ry
    cases x with
    | non => cases rx; exact .int_none a t'
    | bl b => cases rx; exact .int_bool a t' b
    | int b => obtain ⟨t, rfl⟩ := rx; exact .int_int a t' b t
    | str b => obtain ⟨t, rfl⟩ := rx; exact .int_str a t' b t
    | _ => cases fx
  | str a =>
    obtain ⟨t', rfl⟩ := ry
    cases x with
    | non => cases rx; exact .str_none a t'
    | bl b => cases rx; exact .str_bool a t' b
    | int b => obtain ⟨t, rfl⟩ := rx; exact .str_int a t' b t
    | str b => obtain ⟨t, rfl⟩ := rx; exact .str_str a t' b t
    | _ => cases fx
  | _ => cases fy
theorem rcne_V {A : Around} {s : Shared} {y x : V} {u v : Value} (ry : RelV y u) (rx : RelV x v) (fy : flatV y = true) (fx : flatV x = true) : SeqAt.RcNeAt A s u v (!eqV y x) := by
  cases y with
  | non =>
    cases ry
    cases x with
    | non => cases rx; exact .none_none
    | bl b => cases rx; exact .none_bool b
    | int b => obtain ⟨t, rfl⟩ := rx; exact .none_int b t
    | str b => obtain ⟨t, rfl⟩ := rx; exact .none_str b t
    | _ => cases fx
  | bl a =>
    cases ry
    cases x with
    | non => cases rx; exact .bool_none a
    | bl b => cases rx; exact .bool_bool a b
    | int b => obtain ⟨t, rfl⟩ := rx; exact .bool_int a b t
    | str b => obtain ⟨t, rfl⟩ := rx; exact .bool_str a b t
    | _ => cases fx
  | int a =>
    obtain ⟨t', rfl⟩ := ry
    cases x with
    | non => cases rx; exact .int_none a t'
    | bl b => cases rx; exact .int_bool a t' b
    | int b => obtain ⟨t, rfl⟩ := rx; exact .int_int a t' b t
    | str b => obtain ⟨t, rfl⟩ := rx; exact .int_str a t' b t
    | _ => cases fx
  | str a =>
    obtain ⟨t', rfl⟩ := ry
    cases x with
    | non => cases rx; exact .str_none a t'
    | bl b => cases rx; exact .str_bool a t' b
    | int b => obtain ⟨t, rfl⟩ := rx; exact .str_int a t' b t
    | str b => obtain ⟨t, rfl⟩ := rx; exact .str_str a t' b t
    | _ => cases fx
  | _ => cases fy
/-- flat items, one by one -/
def eqSc (a b : D) : Option Bool := match shp N0 a, shp N0 b with
  | .sc v, .sc u => some (eqV v u)
  | _, _ => none
theorem eqSc_at {K : PySem.W.Frag} {I : Hp} {A : Around} {s : Shared} {a b : D} {x y : V} {v u : Value} {k : Bool} (h : eqSc a b = some k) (ra : R K I x a) (rb : R K I y b) (rx : RelV x v) (ry : RelV y u) : SeqAt.EqAt A s v u k := by
  unfold eqSc at h
  cases sa : shp N0 a with
  | sc va =>
    cases sb : shp N0 b with
    | sc vb =>
      rw [sa, sb] at h
      cases h
      obtain ⟨rfl, fa⟩ := shp_sc ra sa
      obtain ⟨rfl, fb⟩ := shp_sc rb sb
      exact eqAt_V rx ry fa fb
    | _ => rw [sa, sb] at h; cases h
  | _ => rw [sa] at h; cases h
section
variable {X : Cx} {pins : List (Addr × Obj)} {σ : L2.St} {H I : Hp} {s : Shared} {τ : Type} {J : τ → Hp → Prop} {N : NN} {t : τ}
theorem rc_run (Iv : Inv X pins σ H s) (W : Wd J X.K I N t H) (n : Nat) (A : Around) (hu : A.units + (n + 1) < cLine) (a b : D) (x y : V) (v u : Value) (k : Bool) (h : eqF N (n + 1) a b = some k) (ra : R X.K I x a) (rb : R X.K I y b) (rx : RelV x v) (ry : RelV y u)
    (E Q : Value → Shared → Prop) (hq : Q (.bool k) s) : wpAny (model X.prog X.w) A (richCompare .Eq v u) Q E s := by
  have ih : ∀ a b x y v u k, eqF N n a b = some k → R X.K I x a → R X.K I y b → RelV x v → RelV y u → SeqAt.EqP X.prog X.w A.in1 s v u k := fun a b x y v u k => eq_run Iv W n A.in1 (by show A.units + 1 + n < cLine; omega) a b x y v u k
  have hu1 : A.units < cLine := by omega
  unfold eqF at h
  cases sa : shp N a with
  | o => rw [sa] at h; cases h
  | sc va =>
    obtain ⟨rfl, fa⟩ := shp_sc ra sa
    cases sb : shp N b with
    | sc vb =>
      obtain ⟨rfl, fb⟩ := shp_sc rb sb
      rw [sa, sb] at h
      cases h
      exact rc_V rx ry fa fb _ _ E Q hq
    | T ys =>
      obtain ⟨q, zs, rfl, sq, _⟩ := shp_T W rb sb
      rw [sa, sb] at h
      cases h
      cases ry
      obtain ⟨its, _, ht, _⟩ := Iv.tuple sq
      cases x with
      | non => cases rx; exact SeqAt.RcAt.none_tuple ht hu1 _ _ E Q hq
      | bl c => cases rx; exact SeqAt.RcAt.bool_tuple c ht hu1 _ _ E Q hq
      | int i => obtain ⟨tk, rfl⟩ := rx; exact SeqAt.RcAt.int_tuple i tk ht hu1 _ _ E Q hq
      | str z => obtain ⟨tk, rfl⟩ := rx; exact SeqAt.RcAt.str_tuple z tk ht hu1 _ _ E Q hq
      | _ => cases fa
    | L ys =>
      obtain ⟨q, zs, rfl, sq, _⟩ := shp_L W rb sb
      rw [sa, sb] at h
      cases h
      cases ry
      obtain ⟨its, _, ht, _⟩ := Iv.list sq
      cases x with
      | non => cases rx; exact SeqAt.RcAt.none_list ht.isList hu1 _ _ E Q hq
      | bl c => cases rx; exact SeqAt.RcAt.bool_list c ht.isList hu1 _ _ E Q hq
      | int i => obtain ⟨tk, rfl⟩ := rx; exact SeqAt.RcAt.int_list i tk ht.isList hu1 _ _ E Q hq
      | str z => obtain ⟨tk, rfl⟩ := rx; exact SeqAt.RcAt.str_list z tk ht.isList hu1 _ _ E Q hq
      | _ => cases fa
    | _ => rw [sa, sb] at h; cases h
  | T xs =>
    obtain ⟨p, zs, rfl, sp, rp⟩ := shp_T W ra sa
    cases rx
    obtain ⟨its, ri, ht, _⟩ := Iv.tuple sp
    cases sb : shp N b with
    | sc vb =>
      obtain ⟨rfl, fb⟩ := shp_sc rb sb
      rw [sa, sb] at h
      cases h
      cases y with
      | non => cases ry; exact SeqAt.RcAt.tuple_none ht hu1 _ _ E Q hq
      | bl c => cases ry; exact SeqAt.RcAt.tuple_bool c ht hu1 _ _ E Q hq
      | int i => obtain ⟨tk, rfl⟩ := ry; exact SeqAt.RcAt.tuple_int i tk ht hu1 _ _ E Q hq
      | str z => obtain ⟨tk, rfl⟩ := ry; exact SeqAt.RcAt.tuple_str z tk ht hu1 _ _ E Q hq
      | _ => cases fb
    | T ys =>
      obtain ⟨q, ws, rfl, sq, rq⟩ := shp_T W rb sb
      cases ry
      obtain ⟨jts, rj, hj, _⟩ := Iv.tuple sq
      rw [sa, sb] at h
      obtain ⟨r, hr, er⟩ := eqL_run ih (show eqL (eqF N n) xs ys = some k from h) rp rq ri rj
      refine SeqAt.yRcTuples ht hj hu1 (r := r) (fun j h1 h2 => ?_) E Q ?_
      · have z := hr j (by simpa using h1) (by simpa using h2)
        simpa using z
      · rw [List.size_toArray, List.size_toArray, er]
        exact hq
    | L ys =>
      obtain ⟨q, ws, rfl, sq, rq⟩ := shp_L W rb sb
      cases ry
      obtain ⟨jts, rj, hj, _⟩ := Iv.list sq
      rw [sa, sb] at h
      cases h
      exact SeqAt.RcAt.tuple_list ht hj.isList hu1 _ _ E Q hq
    | _ => rw [sa, sb] at h; cases h
  | L xs =>
    obtain ⟨p, zs, rfl, sp, rp⟩ := shp_L W ra sa
    cases rx
    obtain ⟨its, ri, ht, _⟩ := Iv.list sp
    cases sb : shp N b with
    | sc vb =>
      obtain ⟨rfl, fb⟩ := shp_sc rb sb
      rw [sa, sb] at h
      cases h
      cases y with
      | non => cases ry; exact SeqAt.RcAt.list_none ht.isList hu1 _ _ E Q hq
      | bl c => cases ry; exact SeqAt.RcAt.list_bool c ht.isList hu1 _ _ E Q hq
      | int i => obtain ⟨tk, rfl⟩ := ry; exact SeqAt.RcAt.list_int i tk ht.isList hu1 _ _ E Q hq
      | str z => obtain ⟨tk, rfl⟩ := ry; exact SeqAt.RcAt.list_str z tk ht.isList hu1 _ _ E Q hq
      | _ => cases fb
    | L ys =>
      obtain ⟨q, ws, rfl, sq, rq⟩ := shp_L W rb sb
      cases ry
      obtain ⟨jts, rj, hj, _⟩ := Iv.list sq
      rw [sa, sb] at h
      have h : (if xs.length = ys.length then eqL (eqF N n) xs ys else some false) = some k := h
      have l1 : its.toArray.size = xs.length := by rw [List.size_toArray, ← ri.length, rp.length]
      have l2 : jts.toArray.size = ys.length := by rw [List.size_toArray, ← rj.length, rq.length]
      by_cases el : xs.length = ys.length
      · rw [if_pos el] at h
        obtain ⟨r, hr, er⟩ := eqL_run ih h rp rq ri rj
        refine SeqAt.rcP_lists ht.isList hj.isList (by rw [l1, l2]; exact el) hu1 (e := r) (fun j h1 h2 => ?_) E Q ?_
        · have z := hr j (by simpa using h1) (by simpa using h2)
          simpa using z
        · have ez : its.length = jts.length := by
            have := l1; have := l2; simp at *; omega
          rw [ez, Nat.min_self, show (jts.length == jts.length) = true from by simp, Bool.and_true] at er
          rw [List.size_toArray, ez, er]
          exact hq
      · rw [if_neg el] at h
        cases h
        exact SeqAt.RcAt.lists_lengths ht.isList hj.isList (by rw [l1, l2]; simpa using el) hu1 _ _ E Q hq
    | T ys =>
      obtain ⟨q, ws, rfl, sq, rq⟩ := shp_T W rb sb
      cases ry
      obtain ⟨jts, rj, hj, _⟩ := Iv.tuple sq
      rw [sa, sb] at h
      cases h
      exact SeqAt.RcAt.list_tuple ht.isList hj hu1 _ _ E Q hq
    | _ => rw [sa, sb] at h; cases h
  | K xs =>
    obtain ⟨p, zs, rfl, sp, rp⟩ := shp_K W ra sa
    cases rx
    cases sb : shp N b with
    | K ys =>
      obtain ⟨q, ws, rfl, sq, rq⟩ := shp_K W rb sb
      cases ry
      rw [sa, sb] at h
      have h : (if xs.length = ys.length then eqK (eqF N n) ys xs else some false) = some k := h
      obtain ⟨_, ya, va, kra, da⟩ := dk_rd Iv.hok sp
      obtain ⟨_, yb, vb, krb, db⟩ := dk_rd Iv.hok sq
      have l1 : va.length = xs.length := by rw [← Paired.length kra, rp.length]
      have l2 : vb.length = ys.length := by rw [← Paired.length krb, rq.length]
      by_cases el : xs.length = ys.length
      · rw [if_pos el] at h
        refine PySem.W.rcP_dicts (knd := mixKind X.prog X.w) (r := k) ya yb da db hu1 (fun _ => eqK_run ih rq krb h rp kra) E Q ?_
        rw [show (va.length == vb.length) = true from by rw [l1, l2]; simpa using el, Bool.true_and]
        exact hq
      · rw [if_neg el] at h
        cases h
        refine PySem.W.rcP_dicts (knd := mixKind X.prog X.w) (r := true) ya yb da db hu1 (fun z => absurd (by rw [← l1, ← l2]; exact z) el) E Q ?_
        rw [show (va.length == vb.length) = false from by rw [l1, l2]; simpa using el, Bool.false_and]
        exact hq
    | _ => rw [sa, sb] at h; cases h
/-- !=; two lists: one of them empty, or flat -/
theorem rcne_run (Iv : Inv X pins σ H s) (W : Wd J X.K I N t H) (n : Nat) (A : Around) (hu : A.units + (n + 1) < cLine) (a b : D) (x y : V) (v u : Value) (k : Bool) (h : eqF N (n + 1) a b = some k) (ra : R X.K I x a) (rb : R X.K I y b) (rx : RelV x v) (ry : RelV y u)
    (hL : ∀ xs ys, shp N a = .L xs → shp N b = .L ys → xs.length = ys.length → eqL eqSc xs ys = some k) (E Q : Value → Shared → Prop) (hq : Q (.bool (!k)) s) : wpAny (model X.prog X.w) A (richCompare .NotEq v u) Q E s := by
  have ih : ∀ a b x y v u k, eqF N n a b = some k → R X.K I x a → R X.K I y b → RelV x v → RelV y u → SeqAt.EqP X.prog X.w A.in1 s v u k := fun a b x y v u k => eq_run Iv W n A.in1 (by show A.units + 1 + n < cLine; omega) a b x y v u k
  have hu1 : A.units < cLine := by omega
  unfold eqF at h
  cases sa : shp N a with
  | o => rw [sa] at h; cases h
  | sc va =>
    obtain ⟨rfl, fa⟩ := shp_sc ra sa
    cases sb : shp N b with
    | sc vb =>
      obtain ⟨rfl, fb⟩ := shp_sc rb sb
      rw [sa, sb] at h
      cases h
      exact rcne_V rx ry fa fb _ _ E Q hq
    | T ys =>
      obtain ⟨q, zs, rfl, sq, _⟩ := shp_T W rb sb
      rw [sa, sb] at h
      cases h
      cases ry
      obtain ⟨its, _, ht, _⟩ := Iv.tuple sq
      cases x with
      | non => cases rx; exact SeqAt.RcNeAt.none_tuple ht hu1 _ _ E Q hq
      | bl c => cases rx; exact SeqAt.RcNeAt.bool_tuple c ht hu1 _ _ E Q hq
      | int i => obtain ⟨tk, rfl⟩ := rx; exact SeqAt.RcNeAt.int_tuple i tk ht hu1 _ _ E Q hq
      | str z => obtain ⟨tk, rfl⟩ := rx; exact SeqAt.RcNeAt.str_tuple z tk ht hu1 _ _ E Q hq
      | _ => cases fa
    | L ys =>
      obtain ⟨q, zs, rfl, sq, _⟩ := shp_L W rb sb
      rw [sa, sb] at h
      cases h
      cases ry
      obtain ⟨its, _, ht, _⟩ := Iv.list sq
      cases x with
      | non => cases rx; exact SeqAt.RcNeAt.none_list ht.isList hu1 _ _ E Q hq
      | bl c => cases rx; exact SeqAt.RcNeAt.bool_list c ht.isList hu1 _ _ E Q hq
      | int i => obtain ⟨tk, rfl⟩ := rx; exact SeqAt.RcNeAt.int_list i tk ht.isList hu1 _ _ E Q hq
      | str z => obtain ⟨tk, rfl⟩ := rx; exact SeqAt.RcNeAt.str_list z tk ht.isList hu1 _ _ E Q hq
      | _ => cases fa
    | _ => rw [sa, sb] at h; cases h
  | T xs =>
    obtain ⟨p, zs, rfl, sp, rp⟩ := shp_T W ra sa
    cases rx
    obtain ⟨its, ri, ht, _⟩ := Iv.tuple sp
    cases sb : shp N b with
    | sc vb =>
      obtain ⟨rfl, fb⟩ := shp_sc rb sb
      rw [sa, sb] at h
      cases h
      cases y with
      | non => cases ry; exact SeqAt.RcNeAt.tuple_none ht hu1 _ _ E Q hq
      | bl c => cases ry; exact SeqAt.RcNeAt.tuple_bool c ht hu1 _ _ E Q hq
      | int i => obtain ⟨tk, rfl⟩ := ry; exact SeqAt.RcNeAt.tuple_int i tk ht hu1 _ _ E Q hq
      | str z => obtain ⟨tk, rfl⟩ := ry; exact SeqAt.RcNeAt.tuple_str z tk ht hu1 _ _ E Q hq
      | _ => cases fb
    | T ys =>
      obtain ⟨q, ws, rfl, sq, rq⟩ := shp_T W rb sb
      cases ry
      obtain ⟨jts, rj, hj, _⟩ := Iv.tuple sq
      rw [sa, sb] at h
      obtain ⟨r, hr, er⟩ := eqL_run ih (show eqL (eqF N n) xs ys = some k from h) rp rq ri rj
      refine SeqAt.yRcTuplesNe ht hj hu1 (r := r) (fun j h1 h2 => ?_) E Q ?_
      · have z := hr j (by simpa using h1) (by simpa using h2)
        simpa using z
      · rw [List.size_toArray, List.size_toArray, er]
        exact hq
    | L ys =>
      obtain ⟨q, ws, rfl, sq, rq⟩ := shp_L W rb sb
      cases ry
      obtain ⟨jts, rj, hj, _⟩ := Iv.list sq
      rw [sa, sb] at h
      cases h
      exact SeqAt.RcNeAt.tuple_list ht hj.isList hu1 _ _ E Q hq
    | _ => rw [sa, sb] at h; cases h
  | L xs =>
    obtain ⟨p, zs, rfl, sp, rp⟩ := shp_L W ra sa
    cases rx
    obtain ⟨its, ri, ht, _⟩ := Iv.list sp
    cases sb : shp N b with
    | sc vb =>
      obtain ⟨rfl, fb⟩ := shp_sc rb sb
      rw [sa, sb] at h
      cases h
      cases y with
      | non => cases ry; exact SeqAt.RcNeAt.list_none ht.isList hu1 _ _ E Q hq
      | bl c => cases ry; exact SeqAt.RcNeAt.list_bool c ht.isList hu1 _ _ E Q hq
      | int i => obtain ⟨tk, rfl⟩ := ry; exact SeqAt.RcNeAt.list_int i tk ht.isList hu1 _ _ E Q hq
      | str z => obtain ⟨tk, rfl⟩ := ry; exact SeqAt.RcNeAt.list_str z tk ht.isList hu1 _ _ E Q hq
      | _ => cases fb
    | L ys =>
      obtain ⟨q, ws, rfl, sq, rq⟩ := shp_L W rb sb
      cases ry
      obtain ⟨jts, rj, hj, _⟩ := Iv.list sq
      rw [sa, sb] at h
      have h : (if xs.length = ys.length then eqL (eqF N n) xs ys else some false) = some k := h
      have l1 : its.toArray.size = xs.length := by rw [List.size_toArray, ← ri.length, rp.length]
      have l2 : jts.toArray.size = ys.length := by rw [List.size_toArray, ← rj.length, rq.length]
      by_cases el : xs.length = ys.length
      · obtain ⟨r, hr, er⟩ := eqL_run (G := fun v u k => SeqAt.EqAt A.in1 s v u k) (f := eqSc) (K := X.K) (I := I) (fun _ _ _ _ _ _ _ z a1 a2 a3 a4 => eqSc_at z a1 a2 a3 a4) (hL xs ys sa sb el) rp rq ri rj
        refine SeqAt.RcNeAt.lists ht.isList hj.isList (by rw [l1, l2]; exact el) hu1 (e := r) (fun j h1 h2 => ?_) _ _ E Q ?_
        · have z := hr j (by simpa using h1) (by simpa using h2)
          simpa using z
        · have ez : its.length = jts.length := by
            have := l1; have := l2; simp at *; omega
          rw [ez, Nat.min_self, show (jts.length == jts.length) = true from by simp, Bool.and_true] at er
          rw [List.size_toArray, ez, er]
          exact hq
      · rw [if_neg el] at h
        cases h
        exact SeqAt.RcNeAt.lists_lengths ht.isList hj.isList (by rw [l1, l2]; simpa using el) hu1 _ _ E Q hq
    | T ys =>
      obtain ⟨q, ws, rfl, sq, rq⟩ := shp_T W rb sb
      cases ry
      obtain ⟨jts, rj, hj, _⟩ := Iv.tuple sq
      rw [sa, sb] at h
      cases h
      exact SeqAt.RcNeAt.list_tuple ht.isList hj hu1 _ _ E Q hq
    | _ => rw [sa, sb] at h; cases h
  | K xs =>
    obtain ⟨p, zs, rfl, sp, rp⟩ := shp_K W ra sa
    cases rx
    cases sb : shp N b with
    | K ys =>
      obtain ⟨q, ws, rfl, sq, rq⟩ := shp_K W rb sb
      cases ry
      rw [sa, sb] at h
      have h : (if xs.length = ys.length then eqK (eqF N n) ys xs else some false) = some k := h
      obtain ⟨_, ya, va, kra, da⟩ := dk_rd Iv.hok sp
      obtain ⟨_, yb, vb, krb, db⟩ := dk_rd Iv.hok sq
      have l1 : va.length = xs.length := by rw [← Paired.length kra, rp.length]
      have l2 : vb.length = ys.length := by rw [← Paired.length krb, rq.length]
      by_cases el : xs.length = ys.length
      · rw [if_pos el] at h
        refine PySem.W.yDictsNe (knd := mixKind X.prog X.w) (r := k) ya yb da db hu1 (fun _ => eqK_run ih rq krb h rp kra) E Q ?_
        rw [show (va.length == vb.length) = true from by rw [l1, l2]; simpa using el, Bool.true_and]
        exact hq
      · rw [if_neg el] at h
        cases h
        refine PySem.W.yDictsNe (knd := mixKind X.prog X.w) (r := true) ya yb da db hu1 (fun z => absurd (by rw [← l1, ← l2]; exact z) el) E Q ?_
        rw [show (va.length == vb.length) = false from by rw [l1, l2]; simpa using el, Bool.false_and]
        exact hq
    | _ => rw [sa, sb] at h; cases h
end
end Y
/-! defs whose callers' guards are known (repr wants them) -/
namespace Y
open PySem PySem.Spec PyProof.Rows L2
structure Rm (k : Nat) (A : Around) : Prop extends Room k A where
  gs : A.guards = some []
theorem Rm.less {j k : Nat} {A : Around} (r : Rm k A) (h : j ≤ k) : Rm j A := ⟨r.toRoom.mono h, r.gs⟩
theorem Rm.into {k : Nat} {A : Around} (r : Rm (k + 1) A) (env : Env) : Rm k (A.deeper env) := ⟨r.toRoom.deeper env, by rw [← r.gs]; rfl⟩
theorem make_gs {A : Around} {C : Addr} {us : List Value} {kw : List (Str × Value)} (h : A.guards = some []) : (A.under (.builtin "type.__call__" ⟨.ref C :: us, kw⟩)).guards = some [] := by
  simp [Around.under, h, pushGuards, Code.guards, Code.isGuard, guardIds]
theorem Rm.mk1 {k : Nat} {A : Around} (r : Rm (k + 1) A) (C : Addr) (us : List Value) (kw : List (Str × Value)) : Rm k (A.under (.builtin "type.__call__" ⟨.ref C :: us, kw⟩)) := ⟨r.toRoom.make C us kw, make_gs r.gs⟩

structure FnG (P : Program) (w : World) (K : PySem.W.Frag) (mg : Str → Option Value) (base : Heap) (CX : CXT) (k : Nat) (f : Addr) (fd : FuncData) (ps : List Str) (sp : Sp) : Prop where
  size : ∀ vs H Q E, sp vs H Q E → vs.length = ps.length
  go : ∀ (A : Around) (outer : List Env) (s : Shared) (H : Hp) (args : Args) (us : List Value) (vs : List V) (Q : VK) (E : XK), Rm k A → Env0 P w K mg base A outer s H →
    BindsTo s fd args (ps.zip us) → Vals vs us → sp vs H Q E → codeAny (model P w) A (.call (.ref f) args) (CR CX outer P w H s Q E) s
section
variable {Pr : Program} {w : World} {K : PySem.W.Frag} {mg : Str → Option Value} {base : Heap}
theorem FnG.less {CX : CXT} {j k : Nat} {f : Addr} {fd : FuncData} {ps : List Str} {sp : Sp} (F : FnG Pr w K mg base CX j f fd ps sp) (h : j ≤ k) : FnG Pr w K mg base CX k f fd ps sp :=
  ⟨F.size, fun A outer s H args us vs Q E hr => F.go A outer s H args us vs Q E (hr.less h)⟩
/-- a def by its body -/
theorem FnG.of {CX : CXT} {x qual : Str} {params : Arguments} {body : List Stmt} {scope : Scope} {dvs : List V} {kws : List (Str × V)} {f : Addr} {fd : FuncData} {Ns ps : List Str} {k : Nat} {sp : Sp}
    (F : FunD K x qual params body scope dvs kws f fd) (S : FnScope Ns ps scope) (size : ∀ vs H Q E, sp vs H Q E → vs.length = ps.length)
    (hbody : ∀ (cdv : Value) (A : Around) (outer : List Env) (s : Shared) (H : Hp) (vs : List V) (Q : VK) (E : XK), Rm k (A.deeper (envOfC qual scope s.heap.objs.size f cdv)) → sp vs H Q E →
      ∃ t, PSs (cxOf CX Pr w K mg base Ns qual scope f cdv A outer s H E) body t ∧ t { nx := fun _ H' => Q .non H', rt := Q } (L2.start Ns vs) H) : FnG Pr w K mg base CX (k + 1) f fd ps sp := by
  obtain ⟨oc, od, dV, kV, doc, pm, an, cdv, ct, osl, rfl, lk, hcd, _, _⟩ := F.ex
  refine ⟨size, fun A outer s H args us vs Q E hr env0 bnd rv sat => ?_⟩
  have inK : K.In s.heap := env0.mod.kin.keeps fun b o q => (env0.bs b o q).1
  have lms := env0.mod.nolimit.keeps (h' := s.heap) fun b o q => (env0.bs b o q).1
  have kinds : ∀ z ∈ ps.zip us, scope.names.lookup z.1 = some .local ∨ (scope.names.lookup z.1 = some .cell ∧ ((cellsFrom (s.heap.objs.size + 1) scope.names []).lookup z.1).isSome = true) := by
    rintro ⟨nm, vv⟩ hz
    exact (S.par nm (List.of_mem_zip hz).1).imp id fun c => ⟨c, PySem.W.cellsFrom_some _ _ _ (Or.inl c)⟩
  refine codeAny_call_function hr.depth (inK _ _ lk) rfl S.co S.gen rfl (PySem.W.codeRec_of inK hcd) (bnd _ _ _ _ (wpAny_newFunctionEnv_cells S.kind kinds fun env he s1 cl => ?_))
  subst he
  refine ⟨lms.keeps cl.toInCall.keep, codeAny_func ?_⟩
  obtain ⟨t, ps', tq⟩ := hbody cdv A outer s H vs Q E (hr.into _) sat
  have I1 := inv_start (CX := CX) (E := E) (qual := qual) (cd := cdv) (f := f) S hr.hd env0 (size _ _ _ _ sat) rv cl
  refine wpAny_mono (ps'.run [] s1 (L2.start Ns vs) H _ I1 tq) ?_ fun e s' q => q
  intro fl s' q
  have ends : ∀ {σ' : L2.St} {H' : Hp} {v : V} {u : Value}, Inv (cxOf CX Pr w K mg base Ns qual scope f cdv A outer s H E) [] σ' H' s' → RelV v u → Q v H' → CE outer Pr w H s Q u s' := by
    intro σ' H' v u J rr qq
    exact ⟨v, H', J.os, J.bare, J.base, J.hok, rr, qq⟩
  match fl, q with
  | .ret u, ⟨v, σ', H', J, rr, qq⟩ => exact ends J rr qq
  | .next, ⟨σ', H', J, qq⟩ => exact ends (v := V.non) (u := Value.none) J rfl qq
  | .brk, ⟨_, _, _, z⟩ => exact z.elim
  | .cont, ⟨_, _, _, z⟩ => exact z.elim
end
section
variable {X : Cx} {CX : CXT} {k n : Nat} {f C : Addr} {fd : FuncData} {ps ks : List Str} {sp : Sp} {E : XK} {x m : Str} {p pos apos : Pos} {e o : Expr} {es : List Expr} {kws : List Keyword} {ta : TE} {t tk : TA} {dvs : List V} {ds : List Value}
  {g : List Value → List Value → List Value} {gV : List V → List V → List V} {pins : List (Addr × Obj)} {σ : L2.St} {H : Hp} {s : Shared} {Q : VK} {us zs : List Value} {vs : List V} {kv : List (Str × Value)}
/-- the callee runs, however it was bound -/
theorem fg_run (F : FnG X.prog X.w X.K X.mg X.base CX k f fd ps sp) (hr : Rm k X.A) (hx : Passes CX X E) (I : Inv X pins σ H s) (hb : BindsTo s fd ⟨us, kv⟩ (ps.zip zs)) (r : Vals vs zs) (h : sp vs H Q E) :
    wpAny (model X.prog X.w) X.A (call (.ref f) us kv) (EP X pins σ Q) X.xe s := by
  refine wpAny_call (codeAny_mono (F.go X.A X.stack s H ⟨us, kv⟩ zs vs Q E hr I.env0 hb r h) ?_)
  intro r s' q
  match r, q with
  | .error e, q => exact hx pins σ H s e s' I q
  | .ok (.ret u), q => exact I.after q
/-- C(..): a new instance, its dict, then __init__ -/
theorem fg_make (M : Mk X.K C f) (F : FnG X.prog X.w X.K X.mg X.base CX k f fd ps sp) (hr : Rm (k + 1) X.A) (hx : Passes CX X E) (I : Inv X pins σ H s)
    (hb : ∀ (x : Addr) (s' : Shared), X.K.In s'.heap → ∃ ws zs, Vals ws zs ∧ BindsTo s' fd ⟨.ref x :: us, kv⟩ (ps.zip zs) ∧ ∀ dx, H x = none → H dx = none → dx ≠ x →
      sp ws (upd (upd H dx (.own x)) x (.ins C dx [])) (fun v H2 => v = .non ∧ Q (.ref x) H2) E) : wpAny (model X.prog X.w) X.A (call (.ref C) us kv) (EP X pins σ Q) X.xe s := by
  have I2 := Inv.made (C := C) I
  refine wpAny_call (make_map (f := f) I.kIn M.makes M.init (beq_iff_eq.mp M.fn) ?_)
  obtain ⟨ws, zs, rv, bd, sat⟩ := hb (s.heap.objs.size + 1) _ I2.kIn
  have sat := sat s.heap.objs.size (I.hok.fresh (Nat.le_succ _)) (I.hok.fresh (Nat.le_refl _)) (Nat.ne_of_lt (Nat.lt_succ_self _))
  refine codeAny_mono (F.go _ X.stack _ _ ⟨Value.ref (s.heap.objs.size + 1) :: us, kv⟩ zs ws _ E (hr.mk1 C us kv) (I2.env0.make C us kv) bd rv sat) ?_
  intro r s' q
  match r, q with
  | .error e, q => exact hx pins σ _ _ e s' I2 q
  | .ok (.ret u), q =>
    obtain ⟨v, H', I3, rr, ev, qq⟩ := I2.after q
    subst ev
    exact ⟨rr, ⟨V.ref (s.heap.objs.size + 1), H', I3, rfl, qq⟩⟩
/-! calls -/
theorem hd0 {as : List V} {bs : List Value} (h : Vals as bs) : Vals ([] ++ as) ([] ++ bs) := h
theorem pg_call (F : FnG X.prog X.w X.K X.mg X.base CX k f fd ps sp) (hr : Rm k X.A) (hg : Gl X x) (hm : X.mg x = some (.ref f)) (hk : PySem.W.keepIn X.K (.ref f) = true) (hb : Binds X.K fd ps ds) (hd : Vals dvs ds) (hx : Passes CX X E) (ha : PA X (e :: es) t)
    (hdb : (x == ("__debug__" : Str)) = false := by decide) (he : starEach (e :: es) X.env = (false, eval e X.env) :: starEach es X.env := by rfl) (hpl : (backTo pos (starEach es X.env)).any (·.1) = false := by rfl) :
    PE X (.Call (.Name x p) (e :: es) [] pos) (tCall sp dvs E t) := by
  refine ⟨fun pins s σ H Q I h => wpAny_Call_Name_kw (ld_glob I hg hm ?_ hdb)⟩
  refine PySem.W.callWith_K (h₀ := X.base) I.ok.mod.kin hk (thn (ha.run pos pins s σ H _ I h) ?_) he hpl
  rintro us s1 ⟨vs, H1, I1, r, q⟩
  have l : (us ++ ds).length = ps.length := by rw [← (r.append hd).length]; exact F.size _ _ _ _ q
  exact ⟨I1.kIn, fg_run F hr hx I1 (hb s1 us I1.kIn l) (r.append hd) q⟩
theorem pg_call0 (F : FnG X.prog X.w X.K X.mg X.base CX k f fd ps sp) (hr : Rm k X.A) (hg : Gl X x) (hm : X.mg x = some (.ref f)) (hk : PySem.W.keepIn X.K (.ref f) = true) (hb : Binds X.K fd ps ds) (hd : Vals dvs ds) (hx : Passes CX X E)
    (hdb : (x == ("__debug__" : Str)) = false := by decide) : PE X (.Call (.Name x p) [] [] pos) (tCall sp dvs E tNil) := by
  refine ⟨fun pins s σ H Q I h => wpAny_Call_Name_kw (ld_glob I hg hm ?_ hdb)⟩
  have l : ([] ++ ds : List Value).length = ps.length := by rw [← (hd0 hd).length]; exact F.size _ _ _ _ h
  exact PySem.W.callWith_K0 I.kIn hk (fg_run F hr hx I (hb s [] I.kIn l) (hd0 hd) h)
/-- f(.., k = v, ..) -/
theorem pg_callN (F : FnG X.prog X.w X.K X.mg X.base CX k f fd ps sp) (hr : Rm k X.A) (hg : Gl X x) (hm : X.mg x = some (.ref f)) (hk : PySem.W.keepIn X.K (.ref f) = true) (hb : KBn X.K fd ps n ks g gV) (hx : Passes CX X E)
    (ha : PA X (e :: es) t) (hkw : PK X kws tk) (hall : (backToKw pos (keywordEach kws X.env)).all (·.1.isSome) = true := by rfl) (hks : (backToKw pos (keywordEach kws X.env)).filterMap (·.1) = ks := by rfl) (hdb : (x == ("__debug__" : Str)) = false := by decide)
    (he : starEach (e :: es) X.env = (false, eval e X.env) :: starEach es X.env := by rfl) (hpl : ((backTo pos (starEach (e :: es) X.env)).any (·.1) || (backToKw pos (keywordEach kws X.env)).any (·.1.isNone)) = false := by rfl) :
    PE X (.Call (.Name x p) (e :: es) kws pos) (tCallN n ks.length sp gV E t tk) := by
  refine ⟨fun pins s σ H Q I h => wpAny_Call_Name_kw (ld_glob I hg hm ?_ hdb)⟩
  refine PySem.W.callWith_KW (h₀ := X.base) I.ok.mod.kin hk hall (thn (ha.run pos pins s σ H _ I h) ?_) hpl he
  rintro us s1 ⟨vs, H1, I1, r, q⟩
  refine thn (hkw.run pos pins s1 σ H1 _ I1 q) ?_
  rintro ws s2 ⟨zs, H2, I2, rz, l1, l2, q2⟩
  refine ⟨I2.kIn, ?_⟩
  rw [hks]
  exact fg_run F hr hx I2 (hb.to s2 us ws I2.kIn (r.length.symm.trans l1) (rz.length.symm.trans l2)) (hb.rel r rz) q2
/-- f(k = v, ..) -/
theorem pg_callN0 (F : FnG X.prog X.w X.K X.mg X.base CX k f fd ps sp) (hr : Rm k X.A) (hg : Gl X x) (hm : X.mg x = some (.ref f)) (hk : PySem.W.keepIn X.K (.ref f) = true) (hb : KBn X.K fd ps 0 ks g gV) (hx : Passes CX X E)
    (hkw : PK X kws tk) (hall : (backToKw pos (keywordEach kws X.env)).all (·.1.isSome) = true := by rfl) (hks : (backToKw pos (keywordEach kws X.env)).filterMap (·.1) = ks := by rfl) (hdb : (x == ("__debug__" : Str)) = false := by decide)
    (hpl : ((backTo pos (starEach [] X.env)).any (·.1) || (backToKw pos (keywordEach kws X.env)).any (·.1.isNone)) = false := by rfl) : PE X (.Call (.Name x p) [] kws pos) (tCallN 0 ks.length sp gV E tNil tk) := by
  refine ⟨fun pins s σ H Q I h => wpAny_Call_Name_kw (ld_glob I hg hm ?_ hdb)⟩
  refine PySem.W.callWith_KW0 (h₀ := X.base) I.ok.mod.kin hk hall ?_ hpl
  refine thn (hkw.run pos pins s σ H _ I h) ?_
  rintro ws s2 ⟨zs, H2, I2, rz, l1, l2, q2⟩
  refine ⟨I2.kIn, ?_⟩
  rw [hks]
  exact fg_run F hr hx I2 (hb.to s2 [] ws I2.kIn rfl (rz.length.symm.trans l2)) (hb.rel .nil rz) q2
/-- C(..) -/
theorem pg_make (M : Mk X.K C f) (F : FnG X.prog X.w X.K X.mg X.base CX k f fd ps sp) (hr : Rm (k + 1) X.A) (hg : Gl X x) (hm : X.mg x = some (.ref C)) (hb : Binds X.K fd ps ds) (hd : Vals dvs ds) (hx : Passes CX X E) (ha : PA X (e :: es) t)
    (hdb : (x == ("__debug__" : Str)) = false := by decide) (he : starEach (e :: es) X.env = (false, eval e X.env) :: starEach es X.env := by rfl) (hpl : (backTo pos (starEach es X.env)).any (·.1) = false := by rfl) :
    PE X (.Call (.Name x p) (e :: es) [] pos) (fun σ H Q => t σ H fun vs H1 => 1 + vs.length + dvs.length = ps.length ∧ ∀ x dx, H1 x = none → H1 dx = none → dx ≠ x → sp (.ref x :: (vs ++ dvs)) (upd (upd H1 dx (.own x)) x (.ins C dx [])) (fun v H2 => v = .non ∧ Q (.ref x) H2) E) := by
  refine ⟨fun pins s σ H Q I h => wpAny_Call_Name_kw (ld_glob I hg hm ?_ hdb)⟩
  refine PySem.W.callWith_K (h₀ := X.base) I.ok.mod.kin M.kp (thn (ha.run pos pins s σ H _ I h) ?_) he hpl
  rintro us s1 ⟨vs, H1, I1, r, l, q⟩
  refine ⟨I1.kIn, fg_make M F hr hx I1 fun y s' hin => ⟨.ref y :: (vs ++ dvs), .ref y :: (us ++ ds), .cons rfl (r.append hd), hb s' (.ref y :: us) hin ?_, fun dx h1 h2 h3 => q y dx h1 h2 h3⟩⟩
  have e1 := r.length
  have e2 := hd.length
  simp only [List.cons_append, List.length_cons, List.length_append]
  omega
/-- C(.., k = v, ..) -/
theorem pg_makeN (M : Mk X.K C f) (F : FnG X.prog X.w X.K X.mg X.base CX k f fd ps sp) (hr : Rm (k + 1) X.A) (hg : Gl X x) (hm : X.mg x = some (.ref C)) (hb : KBn X.K fd ps (n + 1) ks g gV) (hx : Passes CX X E)
    (ha : PA X (e :: es) t) (hkw : PK X kws tk) (hall : (backToKw pos (keywordEach kws X.env)).all (·.1.isSome) = true := by rfl) (hks : (backToKw pos (keywordEach kws X.env)).filterMap (·.1) = ks := by rfl) (hdb : (x == ("__debug__" : Str)) = false := by decide)
    (he : starEach (e :: es) X.env = (false, eval e X.env) :: starEach es X.env := by rfl) (hpl : ((backTo pos (starEach (e :: es) X.env)).any (·.1) || (backToKw pos (keywordEach kws X.env)).any (·.1.isNone)) = false := by rfl) :
    PE X (.Call (.Name x p) (e :: es) kws pos) (tMakeK C n ks.length sp gV E t tk) := by
  refine ⟨fun pins s σ H Q I h => wpAny_Call_Name_kw (ld_glob I hg hm ?_ hdb)⟩
  refine PySem.W.callWith_KW (h₀ := X.base) I.ok.mod.kin M.kp hall (thn (ha.run pos pins s σ H _ I h) ?_) hpl he
  rintro us s1 ⟨vs, H1, I1, r, q⟩
  refine thn (hkw.run pos pins s1 σ H1 _ I1 q) ?_
  rintro ws s2 ⟨zs, H2, I2, rz, l1, l2, q2⟩
  refine ⟨I2.kIn, ?_⟩
  rw [hks]
  exact fg_make M F hr hx I2 fun y s' hin => ⟨gV (.ref y :: vs) zs, g (.ref y :: us) ws, hb.rel (.cons rfl r) rz, hb.to s' (.ref y :: us) ws hin (congrArg (· + 1) (r.length.symm.trans l1)) (rz.length.symm.trans l2), fun dx h1 h2 h3 => q2 y dx h1 h2 h3⟩
/-- C(k = v, ..) -/
theorem pg_makeN0 (M : Mk X.K C f) (F : FnG X.prog X.w X.K X.mg X.base CX k f fd ps sp) (hr : Rm (k + 1) X.A) (hg : Gl X x) (hm : X.mg x = some (.ref C)) (hb : KBn X.K fd ps 1 ks g gV) (hx : Passes CX X E) (hkw : PK X kws tk)
    (hall : (backToKw pos (keywordEach kws X.env)).all (·.1.isSome) = true := by rfl) (hks : (backToKw pos (keywordEach kws X.env)).filterMap (·.1) = ks := by rfl) (hdb : (x == ("__debug__" : Str)) = false := by decide)
    (hpl : ((backTo pos (starEach [] X.env)).any (·.1) || (backToKw pos (keywordEach kws X.env)).any (·.1.isNone)) = false := by rfl) : PE X (.Call (.Name x p) [] kws pos) (tMakeK C 0 ks.length sp gV E tNil tk) := by
  refine ⟨fun pins s σ H Q I h => wpAny_Call_Name_kw (ld_glob I hg hm ?_ hdb)⟩
  refine PySem.W.callWith_KW0 (h₀ := X.base) I.ok.mod.kin M.kp hall ?_ hpl
  refine thn (hkw.run pos pins s σ H _ I h) ?_
  rintro ws s2 ⟨zs, H2, I2, rz, l1, l2, q2⟩
  refine ⟨I2.kIn, ?_⟩
  rw [hks]
  exact fg_make M F hr hx I2 fun y s' hin => ⟨gV [.ref y] zs, g [.ref y] ws, hb.rel (.cons rfl .nil) rz, hb.to s' [.ref y] ws hin rfl (rz.length.symm.trans l2), fun dx h1 h2 h3 => q2 y dx h1 h2 h3⟩
end
end Y
/-! Y, part 5: operators, statements, defs, loops, comprehensions. -/
namespace Y
open PySem PySem.Spec PyProof.Rows L2

section
variable {τ : Type} {J : τ → Hp → Prop} {X : Cx} {env : EnvD} {N : NN} {t : τ} {pos : Pos} {P : D → NN → τ → Prop} {PB : Bool → NN → τ → Prop} {E : EndD τ}

/-! ### operators by data -/
theorem od_r {f : Value → Value → Sem Value} {r : R2} (ho : OpR X f r) {x y : D} (h : ∀ I H v u Q, Wd J X.K I N t H → R X.K I v x → R X.K I u y → KV1 J X I P Q → r v u H Q) : OpD J X f x y N t P := fun I H v u Q W r1 r2 C => or_to ho (h I H v u Q W r1 r2 C)
theorem od_add {i j : Int} (h : P (.int (i + j)) N t) : OpD J X (binaryOp .Add) (.int i) (.int j) N t P := od_r op_add fun I H v u Q W r1 r2 C => ⟨i, j, r1.int_inv, r2.int_inv, C.now W (.int _) h⟩
theorem od_sub {i j : Int} (h : P (.int (i - j)) N t) : OpD J X (binaryOp .Sub) (.int i) (.int j) N t P := od_r op_sub fun I H v u Q W r1 r2 C => ⟨i, j, r1.int_inv, r2.int_inv, C.now W (.int _) h⟩
theorem od_mul {i j : Int} (hc : CMul i j) (h : P (.int (i * j)) N t) : OpD J X (binaryOp .Mult) (.int i) (.int j) N t P := od_r op_mul fun I H v u Q W r1 r2 C => ⟨i, j, r1.int_inv, r2.int_inv, hc, C.now W (.int _) h⟩
theorem od_mulW {i j : Int} (hc : CMulW i j) (h : P (.int (i * j)) N t) : OpD J X (binaryOp .Mult) (.int i) (.int j) N t P := od_r op_mulW fun I H v u Q W r1 r2 C => ⟨i, j, r1.int_inv, r2.int_inv, hc, C.now W (.int _) h⟩
theorem od_mod {i j : Int} (hc : 0 < j) (h : P (.int (i % j)) N t) : OpD J X (binaryOp .Mod) (.int i) (.int j) N t P := od_r op_mod fun I H v u Q W r1 r2 C => ⟨i, j, r1.int_inv, r2.int_inv, hc, C.now W (.int _) h⟩
theorem od_fdiv {i j : Int} (hc : CDiv i j) (h : P (.int (i / j)) N t) : OpD J X (binaryOp .FloorDiv) (.int i) (.int j) N t P := od_r op_fdiv fun I H v u Q W r1 r2 C => ⟨i, j, r1.int_inv, r2.int_inv, hc, C.now W (.int _) h⟩
theorem od_fdivW {i j : Int} (hc : CDivW i j) (h : P (.int (i / j)) N t) : OpD J X (binaryOp .FloorDiv) (.int i) (.int j) N t P := od_r op_fdivW fun I H v u Q W r1 r2 C => ⟨i, j, r1.int_inv, r2.int_inv, hc, C.now W (.int _) h⟩
theorem od_pow {i j : Int} (hc : CPow i j) (h : P (.int (i ^ j.toNat)) N t) : OpD J X (binaryOp .Pow) (.int i) (.int j) N t P := od_r op_pow fun I H v u Q W r1 r2 C => ⟨i, j, r1.int_inv, r2.int_inv, hc, C.now W (.int _) h⟩
theorem od_addS {i j : Str} (hc : i.length + j.length ≤ sizeLine) (h : P (.str (i ++ j)) N t) : OpD J X (binaryOp .Add) (.str i) (.str j) N t P := od_r op_add_str fun I H v u Q W r1 r2 C => ⟨i, j, r1.str_inv, r2.str_inv, hc, C.now W (.str _) h⟩
theorem od_lt {i j : Int} (h : P (.bl (decide (i < j))) N t) : OpD J X (compareOp .Lt) (.int i) (.int j) N t P := od_r op_lt fun I H v u Q W r1 r2 C => ⟨i, j, r1.int_inv, r2.int_inv, C.now W (.bl _) h⟩
theorem od_le {i j : Int} (h : P (.bl (decide (i ≤ j))) N t) : OpD J X (compareOp .LtE) (.int i) (.int j) N t P := od_r op_le fun I H v u Q W r1 r2 C => ⟨i, j, r1.int_inv, r2.int_inv, C.now W (.bl _) h⟩
theorem od_gt {i j : Int} (h : P (.bl (decide (j < i))) N t) : OpD J X (compareOp .Gt) (.int i) (.int j) N t P := od_r op_gt fun I H v u Q W r1 r2 C => ⟨i, j, r1.int_inv, r2.int_inv, C.now W (.bl _) h⟩
theorem od_ge {i j : Int} (h : P (.bl (decide (j ≤ i))) N t) : OpD J X (compareOp .GtE) (.int i) (.int j) N t P := od_r op_ge fun I H v u Q W r1 r2 C => ⟨i, j, r1.int_inv, r2.int_inv, C.now W (.bl _) h⟩
theorem od_isN {x : D} {b : Bool} (hx : (x = .non ∧ b = true) ∨ (x ≠ .non ∧ b = false)) (h : P (.bl b) N t) : OpD J X (compareOp .Is) x .non N t P := od_r op_isN fun I H v u Q W r1 r2 C => by
  refine ⟨r2.non_inv, ?_⟩
  have e : decide (v = V.non) = b := by
    rcases hx with ⟨rfl, rfl⟩ | ⟨hx, rfl⟩
    · rw [r1.non_inv]; rfl
    · refine decide_eq_false fun z => hx ?_
      subst z; cases r1; rfl
  rw [e]
  exact C.now W (.bl _) h
theorem od_notN {x : D} {b : Bool} (hx : (x = .non ∧ b = false) ∨ (x ≠ .non ∧ b = true)) (h : P (.bl b) N t) : OpD J X (compareOp .IsNot) x .non N t P := od_r op_notN fun I H v u Q W r1 r2 C => by
  refine ⟨r2.non_inv, ?_⟩
  have e : (!decide (v = V.non)) = b := by
    rcases hx with ⟨rfl, rfl⟩ | ⟨hx, rfl⟩
    · rw [r1.non_inv]; rfl
    · rw [decide_eq_false fun z => hx ?_]; rfl
      subst z; cases r1; rfl
  rw [e]
  exact C.now W (.bl _) h
/-- == of data -/
theorem od_eq {x y : D} {b : Bool} (n : Nat) (hu : X.A.units + 64 < cLine) (hn : n ≤ 60) (he : eqF N (n + 1) x y = some b) (h : P (.bl b) N t) : OpD J X (compareOp .Eq) x y N t P := fun I H v u Q W r1 r2 C pins s σ vv uu Iv rv ru =>
  rc_run Iv W n X.A (by omega) x y v u vv uu b he r1 r2 rv ru X.xe (EP X pins σ Q) ⟨.bl b, H, Iv, rfl, C.now W (.bl b) h⟩
/-- != of data; of two lists of one length the items are flat -/
theorem od_ne {x y : D} {b : Bool} (n : Nat) (hu : X.A.units + 64 < cLine) (hn : n ≤ 60) (he : eqF N (n + 1) x y = some b) (hL : ∀ xs ys, shp N x = .L xs → shp N y = .L ys → xs.length = ys.length → eqL eqSc xs ys = some b)
    (h : P (.bl (!b)) N t) : OpD J X (compareOp .NotEq) x y N t P := fun I H v u Q W r1 r2 C pins s σ vv uu Iv rv ru =>
  rcne_run Iv W n X.A (by omega) x y v u vv uu b he r1 r2 rv ru hL X.xe (EP X pins σ Q) ⟨.bl (!b), H, Iv, rfl, C.now W (.bl _) h⟩
theorem od_neI {i j : Int} (hu : X.A.units + 64 < cLine) (h : P (.bl (!(i == j))) N t) : OpD J X (compareOp .NotEq) (.int i) (.int j) N t P := od_ne 0 hu (by decide) rfl (fun _ _ h => by cases h) h
theorem od_eqI {i j : Int} (hu : X.A.units + 64 < cLine) (h : P (.bl (i == j)) N t) : OpD J X (compareOp .Eq) (.int i) (.int j) N t P := od_eq 0 hu (by decide) rfl h
theorem od_eqS {i j : Str} (hu : X.A.units + 64 < cLine) (h : P (.bl (i == j)) N t) : OpD J X (compareOp .Eq) (.str i) (.str j) N t P := od_eq 0 hu (by decide) rfl h
theorem od_neS {i j : Str} (hu : X.A.units + 64 < cLine) (h : P (.bl (!(i == j))) N t) : OpD J X (compareOp .NotEq) (.str i) (.str j) N t P := od_ne 0 hu (by decide) rfl (fun _ _ h => by cases h) h
theorem od_neB {i j : Bool} (hu : X.A.units + 64 < cLine) (h : P (.bl (!(i == j))) N t) : OpD J X (compareOp .NotEq) (.bl i) (.bl j) N t P := od_ne 0 hu (by decide) rfl (fun _ _ h => by cases h) h
theorem shp_lst {N : NN} {x : D} {xs : List D} (h : LV N x xs) : shp N x = .L xs := by
  rcases h with rfl | ⟨p, rfl, e⟩
  · rfl
  · simp [shp, e]
/-- a list against an empty one -/
theorem eqF_nil {N : NN} {n : Nat} {x y : D} {xs : List D} (h : LV N x xs) (hy : LV N y []) : eqF N (n + 1) x y = some xs.isEmpty := by
  unfold eqF
  rw [shp_lst h, shp_lst hy]
  cases xs <;> simp [eqM, eqL]
theorem od_neNil {x y : D} {xs : List D} (hu : X.A.units + 64 < cLine) (hx : LV N x xs) (hy : LV N y []) (h : P (.bl (!xs.isEmpty)) N t) : OpD J X (compareOp .NotEq) x y N t P :=
  od_ne 0 hu (by decide) (eqF_nil hx hy) (fun as bs e1 e2 el => by
    rw [shp_lst hx] at e1
    rw [shp_lst hy] at e2
    cases e1; cases e2
    cases xs with
    | nil => rfl
    | cons _ _ => simp at el) h
theorem od_eqNil {x y : D} {xs : List D} (hu : X.A.units + 64 < cLine) (hx : LV N x xs) (hy : LV N y []) (h : P (.bl xs.isEmpty) N t) : OpD J X (compareOp .Eq) x y N t P :=
  od_eq 0 hu (by decide) (eqF_nil hx hy) h
/-! in, not in -/
def flatD : D → Bool
  | .non => true | .bl _ => true | .int _ => true | .str _ => true
  | _ => false
def vD : D → V
  | .bl b => .bl b | .int i => .int i | .str s => .str s
  | _ => .non
theorem flat_vD {K : PySem.W.Frag} {I : Hp} {v : V} {d : D} (r : R K I v d) (h : flatD d = true) : v = vD d ∧ flatV v = true := by
  cases r <;> first
    | exact ⟨rfl, rfl⟩
    | cases h
theorem flat_vDs {K : PySem.W.Frag} {I : Hp} : ∀ {vs : List V} {ds : List D}, RA K I vs ds → ds.all flatD = true → vs = ds.map vD ∧ vs.all flatV = true
  | _, _, .nil, _ => ⟨rfl, rfl⟩
  | _, _, .cons r t, h => by
    rw [List.all_cons, Bool.and_eq_true] at h
    obtain ⟨a, b⟩ := flat_vD r h.1
    obtain ⟨c, d⟩ := flat_vDs t h.2
    exact ⟨by rw [a, c]; rfl, by rw [List.all_cons, b, d]; rfl⟩
def inD (x : D) (xs : List D) : Bool := xs.any fun y => eqV (vD y) (vD x)
theorem inV_inD {x : D} {xs : List D} : inV (vD x) (xs.map vD) = inD x xs := by
  unfold inV inD
  rw [List.any_map]; rfl
/-- a list or tuple of flat things -/
def SV (N : NN) (y : D) (xs : List D) : Prop := LV N y xs ∨ TV y xs ∨ y = .klst xs
theorem SV.sq {K : PySem.W.Frag} {I H : Hp} {v : V} {x : D} {xs : List D} (W : Wd J K I N t H) (r : R K I v x) (h : SV N x xs) : ∃ a ys, v = .ref a ∧ (SqL K H a ys ∨ SqT K H a ys) ∧ RA K I ys xs := by
  rcases h with h | h | rfl
  · obtain ⟨a, ys, e, s, q⟩ := h.sq W r; exact ⟨a, ys, e, .inl s, q⟩
  · obtain ⟨a, ys, e, s, q⟩ := h.sq W r; exact ⟨a, ys, e, .inr s, q⟩
  · obtain ⟨a, ys, e, s, q⟩ := r.klst_inv; exact ⟨a, ys, e, .inl (W.ex.l s), q⟩
theorem od_in {x y : D} {xs : List D} (hy : SV N y xs) (hx : flatD x = true) (hf : xs.all flatD = true) (h : P (.bl (inD x xs)) N t) : OpD J X (compareOp .In) x y N t P := od_r op_in_seq fun I H v u Q W r1 r2 C => by
  obtain ⟨a, ys, e, s, q⟩ := hy.sq W r2
  obtain ⟨e1, f1⟩ := flat_vD r1 hx
  obtain ⟨e2, f2⟩ := flat_vDs q hf
  refine ⟨a, ys, e, s, f1, f2, ?_⟩
  rw [if_neg Bool.false_ne_true, e1, e2, inV_inD]
  exact C.now W (.bl _) h
theorem od_nin {x y : D} {xs : List D} (hy : SV N y xs) (hx : flatD x = true) (hf : xs.all flatD = true) (h : P (.bl (!inD x xs)) N t) : OpD J X (compareOp .NotIn) x y N t P := od_r op_notIn_seq fun I H v u Q W r1 r2 C => by
  obtain ⟨a, ys, e, s, q⟩ := hy.sq W r2
  obtain ⟨e1, f1⟩ := flat_vD r1 hx
  obtain ⟨e2, f2⟩ := flat_vDs q hf
  refine ⟨a, ys, e, s, f1, f2, ?_⟩
  rw [if_pos rfl, e1, e2, inV_inD]
  exact C.now W (.bl _) h
theorem inD_int (i : Int) (ns : List Int) : inD (.int i) (ns.map D.int) = decide (i ∈ ns) := by
  unfold inD
  rw [List.any_map, Bool.eq_iff_iff, List.any_eq_true, decide_eq_true_eq]
  constructor
  · rintro ⟨x, hx, e⟩
    have e : (x == i) = true := e
    rw [eq_of_beq e] at hx; exact hx
  · intro h; exact ⟨i, h, by show (i == i) = true; simp⟩
theorem flat_ints (ns : List Int) : (ns.map D.int).all flatD = true := by
  rw [List.all_map, List.all_eq_true]; intro x _; rfl
/-- y in d: int, text keys; tuple keys -/
def DKx (N : NN) (y x : D) (b : Bool) : Prop := (∃ kvs k, DV N x kvs ∧ y = keyD k ∧ b = (lkp kvs k).isSome) ∨ (∃ kvs ks, TDV N x kvs ∧ y = .tup (ks.map keyD) ∧ b = (lkp kvs ks).isSome)
theorem DKx.get {K : PySem.W.Frag} {I H : Hp} {v u : V} {x y : D} {b : Bool} (h : DKx N y x b) (W : Wd J K I N t H) (r1 : R K I v y) (r2 : R K I u x) : ∃ a o, u = .ref a ∧ DGet H a v o ∧ o.isSome = b := by
  rcases h with ⟨kvs, k, hd, rfl, rfl⟩ | ⟨kvs, ks, hd, rfl, rfl⟩
  · obtain ⟨a, ys, e, rd, rp⟩ := hd.rd W r2
    refine ⟨a, valV ys k, e, .inl ⟨ys, k, rd, keyD_inv r1, rfl⟩, ?_⟩
    rcases rp.val k with ⟨h1, h2⟩ | ⟨d, w, h1, h2, _⟩ <;> rw [h1, h2] <;> rfl
  · obtain ⟨a, ys, e, rd, rp⟩ := hd.rd W r2
    obtain ⟨c, vs, rfl, hb, rb⟩ := r1.tup_inv
    refine ⟨a, valV ys ks, e, .inr ⟨ys, ks, c, rd, rfl, by rw [W.ex _ _ hb, keysD_inv rb], rfl⟩, ?_⟩
    rcases rp.val ks with ⟨h1, h2⟩ | ⟨d, w, h1, h2, _⟩ <;> rw [h1, h2] <;> rfl
theorem op_inDct (hu : X.A.units + 1 < cLine) : OpR X (compareOp .In) (fun x y H Q => ∃ a o, y = .ref a ∧ DGet H a x o ∧ Q (.bl o.isSome) H) := by
  intro pins s σ H x y v u Q I rx ry h
  obtain ⟨a, o, rfl, g, q⟩ := h
  cases ry
  exact d_in hu I g rx fun s3 I3 => ⟨.bl o.isSome, H, I3, rfl, q⟩
theorem op_ninDct (hu : X.A.units + 1 < cLine) : OpR X (compareOp .NotIn) (fun x y H Q => ∃ a o, y = .ref a ∧ DGet H a x o ∧ Q (.bl (!o.isSome)) H) := by
  intro pins s σ H x y v u Q I rx ry h
  obtain ⟨a, o, rfl, g, q⟩ := h
  cases ry
  exact d_notIn hu I g rx fun s3 I3 => ⟨.bl (!o.isSome), H, I3, rfl, q⟩
theorem od_inD {x y : D} {b : Bool} (hu : X.A.units + 64 < cLine) (hd : DKx N x y b) (h : P (.bl b) N t) : OpD J X (compareOp .In) x y N t P := od_r (op_inDct (by omega)) fun I H v u Q W r1 r2 C => by
  obtain ⟨a, o, e, g, eb⟩ := hd.get W r1 r2
  exact ⟨a, o, e, g, by rw [eb]; exact C.now W (.bl _) h⟩
theorem od_ninD {x y : D} {b : Bool} (hu : X.A.units + 64 < cLine) (hd : DKx N x y b) (h : P (.bl (!b)) N t) : OpD J X (compareOp .NotIn) x y N t P := od_r (op_ninDct (by omega)) fun I H v u Q W r1 r2 C => by
  obtain ⟨a, o, e, g, eb⟩ := hd.get W r1 r2
  exact ⟨a, o, e, g, by rw [eb]; exact C.now W (.bl _) h⟩
/-! lists, tuples -/
theorem od_cat {x y : D} {xs ys : List D} (hx : LV N x xs) (hy : LV N y ys) (hz : xs.length + ys.length ≤ 100000) (h : P (.lst (xs ++ ys)) N t) : OpD J X (binaryOp .Add) x y N t P := od_r op_cat fun I H v u Q W r1 r2 C => by
  obtain ⟨a, vs, e1, s1, q1⟩ := hx.at W r1
  obtain ⟨b, us, e2, s2, q2⟩ := hy.at W r2
  refine ⟨a, b, vs, us, e1, e2, s1, s2, by rw [q1.length, q2.length]; exact Nat.le_trans hz (by decide), fun p hp => ?_⟩
  have en := Ex.new (o := .lst (vs ++ us)) (W.ifresh hp)
  exact C _ _ _ N t _ en (W.newI hp) (.lst upd_same ((q1.append q2).mono en)) h
theorem od_catN {x y : D} {xs ys : List D} (hx : LV N x xs) (hy : LV N y ys) (hz : xs.length + ys.length ≤ 100000) (h : ∀ p, N p = none → P (.ref p) (put N p (.lst (xs ++ ys))) t) : OpD J X (binaryOp .Add) x y N t P := od_r op_cat fun I H v u Q W r1 r2 C => by
  obtain ⟨a, vs, e1, s1, q1⟩ := hx.at W r1
  obtain ⟨b, us, e2, s2, q2⟩ := hy.at W r2
  refine ⟨a, b, vs, us, e1, e2, s1, s2, by rw [q1.length, q2.length]; exact Nat.le_trans hz (by decide), fun p hp => ?_⟩
  exact C _ _ I _ t _ (Ex.refl I) (W.newN (d := .lst (xs ++ ys)) hp ⟨_, upd_same, q1.append q2⟩) (.ref p) (h p (W.nfresh hp))
theorem od_catT {x y : D} {xs ys : List D} (hx : x = .tup xs) (hy : y = .tup ys) (hz : xs.length + ys.length ≤ 100000) (h : P (.tup (xs ++ ys)) N t) : OpD J X (binaryOp .Add) x y N t P := od_r op_catA fun I H v u Q W r1 r2 C => by
  subst hx hy
  obtain ⟨a, vs, e1, s1, q1⟩ := r1.tup_inv
  obtain ⟨b, us, e2, s2, q2⟩ := r2.tup_inv
  refine ⟨a, b, vs, us, e1, e2, SqT.of (W.ex _ _ s1), SqT.of (W.ex _ _ s2), by rw [q1.length, q2.length]; exact Nat.le_trans hz (by decide), fun z => ?_, fun _ z => ?_, fun _ _ p hp => ?_⟩
  · subst z
    cases q1
    exact C.now W (by rw [← e2]; exact r2) h
  · subst z
    cases q2
    rw [List.append_nil] at h
    exact C.now W (by rw [← e1]; exact r1) h
  · have en := Ex.new (o := .tup (vs ++ us)) (W.ifresh hp)
    exact C _ _ _ N t _ en (W.newI hp) (.tup upd_same ((q1.append q2).mono en)) h

/-! ### statements -/
theorem KE.ex {I I' : Hp} {G : Ends} (e : Ex I I') (k : KE J X I E G) : KE J X I' E G :=
  ⟨fun env' I2 N' t' σ' H' e2 W S p => k.nx env' I2 N' t' σ' H' (e.trans e2) W S p, fun v d I2 N' t' H' e2 W r p => k.rt v d I2 N' t' H' (e.trans e2) W r p,
   fun env' I2 N' t' σ' H' e2 W S p => k.bk env' I2 N' t' σ' H' (e.trans e2) W S p, fun env' I2 N' t' σ' H' e2 W S p => k.ct env' I2 N' t' σ' H' (e.trans e2) W S p⟩
theorem StS.mono {st : List Stmt} {E' : EndD τ} (h : StS J X st env N t E) (hn : ∀ a b c, E.nx a b c → E'.nx a b c) (hr : ∀ a b c, E.rt a b c → E'.rt a b c) (hb : ∀ a b c, E.bk a b c → E'.bk a b c) (hc : ∀ a b c, E.ct a b c → E'.ct a b c) : StS J X st env N t E' := fun σ H I G W S C =>
  h σ H I G W S ⟨fun env' I' N' t' σ' H' e W' S' p => C.nx env' I' N' t' σ' H' e W' S' (hn _ _ _ p), fun v d I' N' t' H' e W' r p => C.rt v d I' N' t' H' e W' r (hr _ _ _ p),
    fun env' I' N' t' σ' H' e W' S' p => C.bk env' I' N' t' σ' H' e W' S' (hb _ _ _ p), fun env' I' N' t' σ' H' e W' S' p => C.ct env' I' N' t' σ' H' e W' S' (hc _ _ _ p)⟩
theorem ss_nil (h : E.nx env N t) : StS J X [] env N t E := fun σ H I G W S C => PSs.w pss_nil (C.nx env I N t σ H (Ex.refl I) W S h)
theorem ss_cons {st : Stmt} {rest : List Stmt} (h : StE J X st env N t { E with nx := fun env' N' t' => StS J X rest env' N' t' E }) : StS J X (st :: rest) env N t E := fun σ H I G W S C =>
  PSs.w (pss_cons ps_w pss_w) (h σ H I _ W S ⟨fun env' I' N' t' σ' H' e W' S' p => p σ' H' I' G W' S' (C.ex e), C.rt, C.bk, C.ct⟩)
theorem st_pass (h : E.nx env N t) : StE J X (.Pass pos) env N t E := fun σ H I G W S C => PS.w ps_pass (C.nx env I N t σ H (Ex.refl I) W S h)
theorem st_break (h : E.bk env N t) : StE J X (.Break pos) env N t E := fun σ H I G W S C => PS.w ps_break (C.bk env I N t σ H (Ex.refl I) W S h)
theorem st_continue (h : E.ct env N t) : StE J X (.Continue pos) env N t E := fun σ H I G W S C => PS.w ps_continue (C.ct env I N t σ H (Ex.refl I) W S h)
theorem st_expr {e : Expr} (h : EvE J X e env N t fun _ N1 t1 => E.nx env N1 t1) (hs : swapsWith e none pos.line X.env = pure false := by rfl) : StE J X (.Expr e pos) env N t E := fun σ H I G W S C =>
  PS.w (ps_expr pe_w hs) (h σ H I _ W S fun v d I1 N1 t1 H1 e1 W1 r p => C.nx env I1 N1 t1 σ H1 e1 W1 (S.mono e1) p)
theorem st_ret {e : Expr} (h : EvE J X e env N t E.rt) : StE J X (.Return (some e) pos) env N t E := fun σ H I G W S C => PS.w (ps_ret pe_w) (h σ H I _ W S C.rt)
theorem st_retN (h : E.rt .non N t) : StE J X (.Return none pos) env N t E := fun σ H I G W S C => PS.w ps_retN (C.rt _ _ I N t H (Ex.refl I) W .non h)
theorem st_if {c : Expr} {a b : List Stmt} (h : EvT J X c env N t fun z N1 t1 => (z = true → StS J X a env N1 t1 E) ∧ (z = false → StS J X b env N1 t1 E)) : StE J X (.If c a b pos) env N t E := fun σ H I G W S C =>
  PS.w (ps_if pt_w pss_w pss_w) (h σ H I _ W S fun z I1 N1 t1 H1 e1 W1 p => by
    cases z with
    | true => exact iteT (p.1 rfl σ H1 I1 G W1 (S.mono e1) (C.ex e1))
    | false => exact iteF (p.2 rfl σ H1 I1 G W1 (S.mono e1) (C.ex e1)))
/-- name = value -/
theorem st_set {x : Str} {e : Expr} {pos' : Pos} (i : Nat) (hN : X.N.Nodup) (h : EvE J X e env N t fun d N1 t1 => E.nx (env.set i (some d)) N1 t1) (hi : X.N[i]? = some x := by rfl) (hx : Loc X.env.scope x := by first | exact Or.inl rfl | exact Or.inr rfl)
    (hs : swapsWith e (some (.Name x pos')) pos.line X.env = pure false := by rfl) (hf : X.fn x = true ∨ X.env.scope.names.lookup x = some .local := by first | exact .inl rfl | exact .inr rfl) : StE J X (.Assign [.Name x pos'] e pos) env N t E := fun σ H I G W S C =>
  PS.w (ps_set hN hi hx pe_w hs hf) (h σ H I _ W S fun v d I1 N1 t1 H1 e1 W1 r p => C.nx _ I1 N1 t1 _ H1 e1 W1 ((S.mono e1).set r) p)
/-- target = value -/
theorem st_asg {tg e : Expr} (h : EvE J X e env N t fun d N1 t1 => TgE J X tg d env N1 t1 E.nx) (hs : swapsWithSole [tg] e pos.line X.env = pure false := by rfl) (hw : swappedStores [tg] e X.env = pure none := by rfl)
    (h1 : (assignEach [tg] X.env).map (·.2) = [assign tg X.env] := by rfl) : StE J X (.Assign [tg] e pos) env N t E := fun σ H I G W S C =>
  PS.w (ps_asg pe_w pg_w hs hw h1) (h σ H I _ W S fun v d I1 N1 t1 H1 e1 W1 r p => p v σ H1 I1 _ W1 (S.mono e1) r fun env' I' N' t' σ' H' e W' S' q => C.nx env' I' N' t' σ' H' (e1.trans e) W' S' q)
/-- a, b = x, y -/
theorem st_par {i j : Nat} {x y : Str} {a b : Expr} {px py pt : Pos} {kt k2 pt2} (hc : X.calm = true) (hN : X.N.Nodup) (h : EvA J X [a, b] env N t fun ds N1 t1 => ∃ d e, ds = [d, e] ∧ E.nx ((env.set i (some d)).set j (some e)) N1 t1)
    (hi : X.N[i]? = some x := by rfl) (hj : X.N[j]? = some y := by rfl) (hij : i ≠ j := by decide)
    (hx : X.env.scope.names.lookup x = some .local := by rfl) (hy : X.env.scope.names.lookup y = some .local := by rfl)
    (hw : swappedStores [.Tuple [.Name x px, .Name y py] kt pt] (.Tuple [a, b] k2 pt2) X.env = pure (some [x, y]) := by rfl)
    (hs : swapsWithSole [.Tuple [.Name x px, .Name y py] kt pt] (.Tuple [a, b] k2 pt2) pos.line X.env = pure false := by rfl) :
    StE J X (.Assign [.Tuple [.Name x px, .Name y py] kt pt] (.Tuple [a, b] k2 pt2) pos) env N t E := fun σ H I G W S C =>
  PS.w (ps_par hc hN hi hj hij hx hy pa_w hw hs) (h σ H I _ W S fun vs ds I1 N1 t1 H1 e1 W1 r ⟨d, e, ed, p⟩ => by
    subst ed
    cases r with
    | cons r1 r2 =>
      cases r2 with
      | cons r2 r3 =>
        cases r3
        exact ⟨_, _, rfl, C.nx _ I1 N1 t1 _ H1 e1 W1 (((S.mono e1).set r1).set r2) p⟩)
theorem st_par3 {i j l : Nat} {x y z : Str} {a b c : Expr} {px py pz pt : Pos} {kt k2 pt2} (hc : X.calm = true) (hN : X.N.Nodup) (h : EvA J X [a, b, c] env N t fun ds N1 t1 => ∃ d e f, ds = [d, e, f] ∧ E.nx (((env.set i (some d)).set j (some e)).set l (some f)) N1 t1)
    (hi : X.N[i]? = some x := by rfl) (hj : X.N[j]? = some y := by rfl) (hl : X.N[l]? = some z := by rfl) (hij : i ≠ j := by decide) (hil : i ≠ l := by decide) (hjl : j ≠ l := by decide)
    (hx : X.env.scope.names.lookup x = some .local := by rfl) (hy : X.env.scope.names.lookup y = some .local := by rfl) (hz : X.env.scope.names.lookup z = some .local := by rfl)
    (hw : swappedStores [.Tuple [.Name x px, .Name y py, .Name z pz] kt pt] (.Tuple [a, b, c] k2 pt2) X.env = pure (some [x, y, z]) := by rfl)
    (hs : swapsWithSole [.Tuple [.Name x px, .Name y py, .Name z pz] kt pt] (.Tuple [a, b, c] k2 pt2) pos.line X.env = pure false := by rfl) :
    StE J X (.Assign [.Tuple [.Name x px, .Name y py, .Name z pz] kt pt] (.Tuple [a, b, c] k2 pt2) pos) env N t E := fun σ H I G W S C =>
  PS.w (ps_par3 hc hN hi hj hl hij hil hjl hx hy hz pa_w hw hs) (h σ H I _ W S fun vs ds I1 N1 t1 H1 e1 W1 r ⟨d, e, f, ed, p⟩ => by
    subst ed
    cases r with
    | cons r1 r2 =>
      cases r2 with
      | cons r2 r3 =>
        cases r3 with
        | cons r3 r4 =>
          cases r4
          exact ⟨_, _, _, rfl, C.nx _ I1 N1 t1 _ H1 e1 W1 ((((S.mono e1).set r1).set r2).set r3) p⟩)
/-! targets -/
theorem tg_name {x : Str} {d : D} {PE : EnvD → NN → τ → Prop} (i : Nat) (hN : X.N.Nodup) (h : PE (env.set i (some d)) N t) (hi : X.N[i]? = some x := by rfl) (hx : Loc X.env.scope x := by first | exact Or.inl rfl | exact Or.inr rfl)
    (hf : X.fn x = true ∨ X.env.scope.names.lookup x = some .local := by first | exact .inl rfl | exact .inr rfl) : TgE J X (.Name x pos) d env N t PE := fun v σ H I Q W S r C =>
  PG.w (pg_name hN hi hx hf) (C _ I N t _ H (Ex.refl I) W (S.set r) h)
def TgsE (J : τ → Hp → Prop) (X : Cx) (tgs : List Expr) (ds : List D) (env : EnvD) (N : NN) (t : τ) (P : EnvD → NN → τ → Prop) : Prop :=
  match tgs, ds with
  | [], [] => P env N t
  | tg :: tgs, d :: ds => TgE J X tg d env N t fun env' N' t' => TgsE J X tgs ds env' N' t' P
  | _, _ => False
def wGs (X : Cx) (tgs : List Expr) : TGs := fun vs σ H Q => ∀ pins s us, Inv X pins σ H s → Vals vs us → wpAny (model X.prog X.w) X.A (assignInOrder ((assignEach tgs X.env).map (·.2)) us) (fun _ s' => ∃ σ' H', Inv X pins σ' H' s' ∧ Q σ' H') X.xe s
theorem pgs_w {tgs : List Expr} : PGs X tgs (wGs X tgs) := ⟨fun pins s _ _ _ us _ I r h => h pins s us I r⟩
theorem pgs_to {tgs : List Expr} {g : TGs} (h : PGs X tgs g) {vs : List V} {σ : L2.St} {H : Hp} {Q : L2.St → Hp → Prop} (q : g vs σ H Q) : wGs X tgs vs σ H Q := fun pins s us I r => h.run pins s σ H vs us Q I r q
theorem TgsE.go (hs : ∀ (e : Expr) (es : List Expr), (assignEach (e :: es) X.env).map (·.2) = assign e X.env :: (assignEach es X.env).map (·.2)) : ∀ {tgs : List Expr} {ds : List D} {env : EnvD} {N : NN} {t : τ} {PE : EnvD → NN → τ → Prop}, TgsE J X tgs ds env N t PE →
    ∀ {vs : List V} {σ : L2.St} {H I : Hp} {Q : L2.St → Hp → Prop}, Wd J X.K I N t H → Sl X.K I σ env → RA X.K I vs ds → (∀ env' I' N' t' σ' H', Ex I I' → Wd J X.K I' N' t' H' → Sl X.K I' σ' env' → PE env' N' t' → Q σ' H') → wGs X tgs vs σ H Q
  | [], [], _, _, _, _, h, _, _, _, I, _, W, S, r, C => by
    cases r
    exact pgs_to pgs_nil ⟨rfl, C _ I _ _ _ _ (Ex.refl I) W S h⟩
  | tg :: tgs, d :: ds, _, _, _, _, h, _, _, _, I, _, W, S, r, C => by
    cases r with
    | cons r1 r2 =>
      exact pgs_to (pgs_cons pg_w pgs_w (hs _ _)) ⟨_, _, rfl, h _ _ _ I _ W S r1 fun env' I' N' t' σ' H' e W' S' p => TgsE.go hs p W' S' (r2.mono e) fun env2 I2 N2 t2 σ2 H2 e2 W2 S2 q => C env2 I2 N2 t2 σ2 H2 (e.trans e2) W2 S2 q⟩
  | [], _ :: _, _, _, _, _, h, _, _, _, _, _, _, _, _, _ => h.elim
  | _ :: _, [], _, _, _, _, h, _, _, _, _, _, _, _, _, _ => h.elim
theorem tg_tup {es : List Expr} {k : Nat} {d : D} {ds : List D} {PE : EnvD → NN → τ → Prop} (hc : X.calm = true) (hd : TV d ds) (h : TgsE J X es ds env N t PE) (hl : ds.length = es.length := by rfl)
    (hs : ∀ (e : Expr) (es : List Expr), (assignEach (e :: es) X.env).map (·.2) = assign e X.env :: (assignEach es X.env).map (·.2) := by intro _ _; rfl)
    (hn : (assignEach es X.env).length = es.length := by rfl) (hst : (assignEach es X.env).findIdx? (·.1) = none := by rfl) : TgE J X (.Tuple es k pos) d env N t PE := fun v σ H I Q W S r C => by
  obtain ⟨a, vs, rfl, sq, ra⟩ := hd.sq W r
  exact PG.w (pg_tup hc pgs_w hn hst) ⟨a, vs, rfl, sq, by rw [ra.length]; exact hl, h.go hs W S ra C⟩
/-- o[i] = e of an owned list; of an owned dict -/
theorem st_dput {o i e : Expr} {pos' : Pos} (hu : X.A.units + 64 < cLine) (h : EvE J X e env N t fun z N1 t1 => EvE J X o env N1 t1 fun x N2 t2 => EvE J X i env N2 t2 fun y N3 t3 =>
      (∃ p kvs k, x = .ref p ∧ N3 p = some (.dk kvs) ∧ y = keyD k ∧ kvs.length < 100000 ∧ E.nx env (put N3 p (.dk (putP kvs k z))) t3) ∨
      (∃ p kvs ks, x = .ref p ∧ N3 p = some (.dt kvs) ∧ y = .tup (ks.map keyD) ∧ kvs.length < 100000 ∧ E.nx env (put N3 p (.dt (putP kvs ks z))) t3))
    (hs : swapsWith e (some (.Subscript o i pos')) pos.line X.env = pure false := by rfl) : StE J X (.Assign [.Subscript o i pos'] e pos) env N t E := fun σ H I G W S C =>
  PS.w (ps_dput (by omega) pe_w pe_w pe_w hs) (h σ H I _ W S fun v z I1 N1 t1 H1 e1 W1 r1 k => k σ H1 I1 _ W1 (S.mono e1) fun xv x I2 N2 t2 H2 e2 W2 r2 k => k σ H2 I2 _ W2 (S.mono (e1.trans e2)) fun yv y I3 N3 t3 H3 e3 W3 r3 q => by
    have rz := r1.mono (e2.trans e3)
    have rx := r2.mono e3
    have ee := (e1.trans e2).trans e3
    rcases q with ⟨p, kvs, kk, rfl, hp, rfl, hl, q⟩ | ⟨p, kvs, ks, rfl, hp, rfl, hl, q⟩
    · obtain ⟨hi, kv, hH, hk, hr⟩ := W3.own p _ hp
      have rp : RP X.K I3 kv kvs := ⟨hk, hr⟩
      refine ⟨p, upd H3 p (.dK (putK kv kk v)), rx.ref_inv, .inl ⟨kv, kk, hH, keyD_inv r3, by rw [rp.length]; exact Nat.lt_of_lt_of_le hl (by decide), rfl⟩, ?_⟩
      exact C.nx env I3 _ t3 σ _ ee (W3.mut (d' := .dk (putP kvs kk z)) hp ⟨_, upd_same, (rp.put kk rz).1, (rp.put kk rz).2⟩) (S.mono ee) q
    · obtain ⟨hi, kv, hH, hk, hr⟩ := W3.own p _ hp
      have rp : RP X.K I3 kv kvs := ⟨hk, hr⟩
      obtain ⟨c, vs, rfl, hb, rb⟩ := r3.tup_inv
      refine ⟨p, upd H3 p (.dT (putK kv ks v)), rx.ref_inv, .inr ⟨kv, ks, c, hH, rfl, by rw [W3.ex _ _ hb, keysD_inv rb], by rw [rp.length]; exact Nat.lt_of_lt_of_le hl (by decide), rfl⟩, ?_⟩
      exact C.nx env I3 _ t3 σ _ ee (W3.mut (d' := .dt (putP kvs ks z)) hp ⟨_, upd_same, (rp.put ks rz).1, (rp.put ks rz).2⟩) (S.mono ee) q)
def putA (f : Str) (v : D) : List (Str × D) → List (Str × D)
  | [] => [(f, v)]
  | (g, x) :: r => if g = f then (g, v) :: r else (g, x) :: putA f v r
theorem RP.putA {K : PySem.W.Frag} {I : Hp} {f : Str} {v : V} {d : D} (r : R K I v d) : ∀ {fs : List (Str × D)} {ys : List (Str × V)}, RP K I ys fs → RP K I (putF f v ys) (putA f d fs)
  | [], ys, h => by
    cases ys with
    | nil => exact RP.nil.cons r
    | cons p q => have := h.1; simp at this
  | q :: fs, ys, h => by
    obtain ⟨w, l, rfl, a, b⟩ := h.inv
    obtain ⟨g, x⟩ := q
    unfold L2.putF Y.putA
    by_cases e : g = f
    · rw [if_pos e, if_pos e]; exact b.cons r
    · rw [if_neg e, if_neg e]; exact (RP.putA r b).cons a
/-- o.f = e of an owned instance -/
theorem st_fld {o e : Expr} {f : Str} {pos' : Pos} (h : EvE J X e env N t fun z N1 t1 => EvE J X o env N1 t1 fun x N2 t2 => ∃ p C fs, x = .ref p ∧ N2 p = some (.ins C fs) ∧ Cls X.K C ∧ NoAttr X.K C f ∧ fs.length < 1000 ∧ E.nx env (put N2 p (.ins C (putA f z fs))) t2)
    (hs : swapsWith e (some (.Attribute o f pos')) pos.line X.env = pure false := by rfl) : StE J X (.Assign [.Attribute o f pos'] e pos) env N t E := fun σ H I G W S C =>
  PS.w (ps_fld pe_w pe_w hs) (h σ H I _ W S fun v z I1 N1 t1 H1 e1 W1 r1 k => k σ H1 I1 _ W1 (S.mono e1) fun xv x I2 N2 t2 H2 e2 W2 r2 ⟨p, CC, fs, ex, hp, hc, hn, hl, q⟩ => by
    subst ex
    have rz := r1.mono e2
    obtain ⟨hi, dx, ys, hH, hk, hr⟩ := W2.own p _ hp
    have rp : RP X.K I2 ys fs := ⟨hk, hr⟩
    refine ⟨p, CC, dx, ys, r2.ref_inv, hH, hc, hn, by rw [rp.length]; exact hl, ?_⟩
    exact C.nx env I2 _ t2 σ _ (e1.trans e2) (W2.mut (d' := .ins CC (putA f z fs)) hp ⟨dx, _, upd_same, (rp.putA rz).1, (rp.putA rz).2⟩) (S.mono (e1.trans e2)) q)

/-! ### defs -/
abbrev PreD (τ : Type) := List D → NN → τ → (D → NN → τ → Prop) → Prop
def Fsp (J : τ → Hp → Prop) (K : PySem.W.Frag) (pre : PreD τ) : Sp := fun vs H Q _ => ∃ I N t ds P, Wd J K I N t H ∧ RA K I vs ds ∧ pre ds N t P ∧ ∀ v d I' N' t' H', Ex I I' → Wd J K I' N' t' H' → R K I' v d → P d N' t' → Q v H'
def startD (N : List Str) (ds : List D) : EnvD := ds.map some ++ List.replicate (N.length - ds.length) none
theorem sl_startD {K : PySem.W.Frag} {I : Hp} {vs : List V} {ds : List D} (h : RA K I vs ds) (N : List Str) : Sl K I (L2.start N vs) (startD N ds) := by
  unfold L2.start startD
  rw [h.length]
  exact sl_start h _
section
variable {Pr : Program} {w : World} {K : PySem.W.Frag} {mg : Str → Option Value} {base : Heap}
/-- THE RULE for a def -/
theorem fn_ok {x qual : Str} {params : Arguments} {body : List Stmt} {scope : Scope} {dvs : List V} {kws : List (Str × V)} {f : Addr} {fd : FuncData} {Ns ps : List Str} {k : Nat} {pre : PreD τ} (F : FunD K x qual params body scope dvs kws f fd) (S : FnScope Ns ps scope)
    (len : ∀ ds N t P, pre ds N t P → ds.length = ps.length)
    (hb : ∀ (cdv : Value) (A : Around) (outer : List Env) (s : Shared) (H : Hp) (E : XK) (ds : List D) (N : NN) (t : τ) (P : D → NN → τ → Prop), Rm k (A.deeper (envOfC qual scope s.heap.objs.size f cdv)) → pre ds N t P →
      StS J (cxOf CX0 Pr w K mg base Ns qual scope f cdv A outer s H E).nox body (startD Ns ds) N t { nx := fun _ N' t' => P .non N' t', rt := P }) : FnG Pr w K mg base CX0 (k + 1) f fd ps (Fsp J K pre) := by
  refine FnG.of F S (fun vs H Q E h => ?_) fun cdv A outer s H vs Q E hr h => ?_
  · obtain ⟨I, N, t, ds, P, W, r, p, _⟩ := h
    rw [r.length]; exact len _ _ _ _ p
  · obtain ⟨I, N, t, ds, P, W, r, p, c⟩ := h
    refine ⟨_, PSs.nox (pss_w), ?_⟩
    exact hb cdv A outer s H E ds N t P hr p (L2.start Ns vs) H I _ W (sl_startD r Ns) ⟨fun env' I' N' t' σ' H' e W' S' q => c _ _ I' N' t' H' e W' .non q, fun v d I' N' t' H' e W' r' q => c v d I' N' t' H' e W' r' q, fun _ _ _ _ _ _ _ _ _ q => q.elim, fun _ _ _ _ _ _ _ _ _ q => q.elim⟩
end
/-- f(e, ..) -/
theorem ev_call {k : Nat} {f : Addr} {fd : FuncData} {ps : List Str} {pre : PreD τ} {x : Str} {p : Pos} {e : Expr} {es : List Expr} (F : FnG X.prog X.w X.K X.mg X.base CX0 k f fd ps (Fsp J X.K pre)) (hr : Rm k X.A) (hm : X.mg x = some (.ref f)) (hk : PySem.W.keepIn X.K (.ref f) = true) (hb : Binds X.K fd ps [])
    (h : EvA J X (e :: es) env N t fun ds N1 t1 => pre ds N1 t1 P) (hg : Gl X x := by rfl) (hdb : (x == ("__debug__" : Str)) = false := by decide) (he : starEach (e :: es) X.env = (false, eval e X.env) :: starEach es X.env := by rfl)
    (hpl : (backTo pos (starEach es X.env)).any (·.1) = false := by rfl) : EvE J X (.Call (.Name x p) (e :: es) [] pos) env N t P := fun σ H I Q W S C =>
  PE.w (pg_call F hr hg hm hk hb .nil pass0 pa_w hdb he hpl) (h σ H I _ W S fun vs ds I1 N1 t1 H1 e1 W1 r q => by
    rw [List.append_nil]
    exact ⟨I1, N1, t1, ds, P, W1, r, q, C.ex e1⟩)
theorem ev_call0 {k : Nat} {f : Addr} {fd : FuncData} {ps : List Str} {pre : PreD τ} {x : Str} {p : Pos} (F : FnG X.prog X.w X.K X.mg X.base CX0 k f fd ps (Fsp J X.K pre)) (hr : Rm k X.A) (hm : X.mg x = some (.ref f)) (hk : PySem.W.keepIn X.K (.ref f) = true) (hb : Binds X.K fd ps [])
    (h : pre [] N t P) (hg : Gl X x := by rfl) (hdb : (x == ("__debug__" : Str)) = false := by decide) : EvE J X (.Call (.Name x p) [] [] pos) env N t P := fun σ H I Q W S C =>
  PE.w (pg_call0 F hr hg hm hk hb .nil pass0 hdb) ⟨I, N, t, [], P, W, .nil, h, C⟩
/-- a built-in function, class, by values -/
theorem ev_callB {x : Str} {id : String} {p : Pos} {e : Expr} {es : List Expr} (hm : X.mg x = none) (hv : bootBuiltins x = some (.builtin id)) (h : EvA J X (e :: es) env N t fun ds N1 t1 => ClD J X (.builtin id) ds N1 t1 P) (hg : Gl X x := by rfl) (hn : x ≠ "__name__" := by decide) (hdb : (x == ("__debug__" : Str)) = false := by decide)
    (he : starEach (e :: es) X.env = (false, eval e X.env) :: starEach es X.env := by rfl) (hpl : (backTo pos (starEach es X.env)).any (·.1) = false := by rfl) : EvE J X (.Call (.Name x p) (e :: es) [] pos) env N t P := fun σ H I Q W S C =>
  PE.w (pe_callB cr_w hg hm hv pa_w hn hdb he hpl) (h σ H I _ W S fun vs ds I1 N1 t1 H1 e1 W1 r q => q I1 H1 vs Q W1 r (C.ex e1))
theorem ev_callTy {x : Str} {T : String} {p : Pos} {e : Expr} {es : List Expr} (hm : X.mg x = none) (hv : bootBuiltins x = some (.type T)) (h : EvA J X (e :: es) env N t fun ds N1 t1 => ClD J X (.type T) ds N1 t1 P) (hg : Gl X x := by rfl) (hn : x ≠ "__name__" := by decide) (hdb : (x == ("__debug__" : Str)) = false := by decide)
    (he : starEach (e :: es) X.env = (false, eval e X.env) :: starEach es X.env := by rfl) (hpl : (backTo pos (starEach es X.env)).any (·.1) = false := by rfl) : EvE J X (.Call (.Name x p) (e :: es) [] pos) env N t P := fun σ H I Q W S C =>
  PE.w (pe_callTy cr_w hg hm hv pa_w hn hdb he hpl) (h σ H I _ W S fun vs ds I1 N1 t1 H1 e1 W1 r q => q I1 H1 vs Q W1 r (C.ex e1))
theorem cd_r {f : Value} {r : List V → Hp → VK → Prop} (hc : CallR X f r) {xs : List D} (h : ∀ I H vs Q, Wd J X.K I N t H → RA X.K I vs xs → KV1 J X I P Q → r vs H Q) : ClD J X f xs N t P := fun I H vs Q W ra C => cr_to hc (h I H vs Q W ra C)
theorem RA.one_inv {K : PySem.W.Frag} {I : Hp} {vs : List V} {d : D} (r : RA K I vs [d]) : ∃ v, vs = [v] ∧ R K I v d := by
  cases r with | cons a b => cases b; exact ⟨_, rfl, a⟩
theorem RA.two_inv {K : PySem.W.Frag} {I : Hp} {vs : List V} {d e : D} (r : RA K I vs [d, e]) : ∃ v u, vs = [v, u] ∧ R K I v d ∧ R K I u e := by
  cases r with
  | cons a b => cases b with | cons b c => cases c; exact ⟨_, _, rfl, a, b⟩
theorem cd_len {x : D} {xs : List D} (hx : SV N x xs) (h : P (.int (xs.length : Int)) N t) : ClD J X (.builtin "len") [x] N t P := cd_r call_len_seq fun I H vs Q W ra C => by
  obtain ⟨v, rfl, r⟩ := ra.one_inv
  obtain ⟨a, ys, rfl, s, q⟩ := hx.sq W r
  exact ⟨a, ys, rfl, s, by rw [q.length]; exact C.now W (.int _) h⟩
/-- list(..): a new list, frozen | owned -/
theorem cd_list {x : D} {xs : List D} (hx : SV N x xs) (h : P (.lst xs) N t) : ClD J X (.type "list") [x] N t P := cd_r call_list_of fun I H vs Q W ra C => by
  obtain ⟨v, rfl, r⟩ := ra.one_inv
  obtain ⟨a, ys, rfl, s, q⟩ := hx.sq W r
  refine ⟨a, ys, rfl, s, fun p hp => ?_⟩
  have en := Ex.new (o := .lst ys) (W.ifresh hp)
  exact C _ _ _ N t _ en (W.newI hp) (.lst upd_same (q.mono en)) h
theorem cd_listN {x : D} {xs : List D} (hx : SV N x xs) (h : ∀ p, N p = none → P (.ref p) (put N p (.lst xs)) t) : ClD J X (.type "list") [x] N t P := cd_r call_list_of fun I H vs Q W ra C => by
  obtain ⟨v, rfl, r⟩ := ra.one_inv
  obtain ⟨a, ys, rfl, s, q⟩ := hx.sq W r
  exact ⟨a, ys, rfl, s, fun p hp => C _ _ I _ t _ (Ex.refl I) (W.newN (d := .lst xs) hp ⟨ys, upd_same, q⟩) (.ref p) (h p (W.nfresh hp))⟩
theorem cd_tuple {x : D} {xs : List D} (hx : LV N x xs ∨ x = .tup xs) (h : P (.tup xs) N t) : ClD J X (.type "tuple") [x] N t P := cd_r call_tuple_of fun I H vs Q W ra C => by
  obtain ⟨v, rfl, r⟩ := ra.one_inv
  rcases hx with hx | rfl
  · obtain ⟨a, ys, rfl, s, q⟩ := hx.sq W r
    refine ⟨a, ys, rfl, .inl ⟨s, fun p hp => ?_⟩⟩
    have en := Ex.new (o := .tup ys) (W.ifresh hp)
    exact C _ _ _ N t _ en (W.newI hp) (.tup upd_same (q.mono en)) h
  · obtain ⟨a, ys, rfl, s, q⟩ := r.tup_inv
    exact ⟨a, ys, rfl, .inr ⟨SqT.of (W.ex _ _ s), C.now W (.tup s q) h⟩⟩

/-! ### methods of built-in types -/
def wM (X : Cx) (id : String) : V → List V → Hp → VK → Prop := fun x xs H Q => ∀ pins s σ v us, Inv X pins σ H s → RelV x v → Vals xs us → wpAny (model X.prog X.w) X.A (call (.builtin id) (v :: us)) (EP X pins σ Q) X.xe s
theorem mr_w {id : String} : MtR X id (wM X id) := fun pins s σ H x xs v us Q I r rs h => h pins s σ v us I r rs
theorem mr_to {id : String} {r : V → List V → Hp → VK → Prop} (h : MtR X id r) {x : V} {xs : List V} {H : Hp} {Q : VK} (q : r x xs H Q) : wM X id x xs H Q := fun pins s σ v us I r rs => h pins s σ H x xs v us Q I r rs q
def MtD (J : τ → Hp → Prop) (X : Cx) (id : String) (x : D) (ds : List D) (N : NN) (t : τ) (P : D → NN → τ → Prop) : Prop := ∀ I H v vs Q, Wd J X.K I N t H → R X.K I v x → RA X.K I vs ds → KV1 J X I P Q → wM X id v vs H Q
/-- the kind of a receiver -/
def TyD (T : String) (N : NN) (x : D) : Prop := (T = "list" ∧ ∃ xs, LV N x xs) ∨ (T = "dict" ∧ ∃ p, x = .ref p ∧ ((∃ kvs, N p = some (.dk kvs)) ∨ ∃ kvs, N p = some (.dt kvs))) ∨ (T = "str" ∧ ∃ s, x = .str s)
theorem TyD.ty {T : String} {K : PySem.W.Frag} {I H : Hp} {v : V} {x : D} (W : Wd J K I N t H) (r : R K I v x) (h : TyD T N x) : tyV K T v H := by
  rcases h with ⟨rfl, xs, hx⟩ | ⟨rfl, p, rfl, ⟨kvs, hp⟩ | ⟨kvs, hp⟩⟩ | ⟨rfl, s, rfl⟩
  · obtain ⟨a, ys, rfl, s, _⟩ := hx.sq W r
    exact .inl ⟨rfl, ys, s⟩
  · obtain ⟨_, kv, hH, _⟩ := W.own p _ hp
    rw [r.ref_inv]
    exact .inr (.inr (.inl ⟨rfl, .inl ⟨kv, hH⟩⟩))
  · obtain ⟨_, kv, hH, _⟩ := W.own p _ hp
    rw [r.ref_inv]
    exact .inr (.inr (.inl ⟨rfl, .inr ⟨kv, hH⟩⟩))
  · rw [r.str_inv]; exact rfl
theorem ev_bm0 {T id : String} {o : Expr} {name : Str} {apos : Pos} (pa : PlainAttrs T) (slot : Slot T name id) (hty : typeOf (.builtin id) = pure (.type "method_descriptor")) (h : EvE J X o env N t fun x N1 t1 => TyD T N1 x ∧ MtD J X id x [] N1 t1 P)
    (hbase : attributeBase o name X.env (eval o X.env) = eval o X.env := by rfl) (hline : (apos.endLine == pos.line) = true := by rfl) : EvE J X (.Call (.Attribute o name apos) [] [] pos) env N t P := fun σ H I Q W S C =>
  PE.w (pe_bm0 pa slot hty mr_w pe_w hbase hline) (h σ H I _ W S fun v x I1 N1 t1 H1 e1 W1 r ⟨ty, m⟩ => ⟨ty.ty W1 r, m I1 H1 v [] Q W1 r .nil (C.ex e1)⟩)
theorem ev_bm {T id : String} {o e : Expr} {es : List Expr} {name : Str} {apos : Pos} (pa : PlainAttrs T) (slot : Slot T name id) (hty : typeOf (.builtin id) = pure (.type "method_descriptor"))
    (h : EvE J X o env N t fun x N1 t1 => TyD T N1 x ∧ EvA J X (e :: es) env N1 t1 fun ds N2 t2 => MtD J X id x ds N2 t2 P)
    (hbase : attributeBase o name X.env (eval o X.env) = eval o X.env := by rfl)
    (hfew : ((backTo pos (starEach (e :: es) X.env)).all (fun x => !x.1) && (backToKw pos (keywordEach [] X.env)).all (fun x => x.1.isSome) && decide ((e :: es).length + ([] : List Keyword).length + (if ([] : List Keyword).isEmpty then 0 else 1) < 30)) = true := by rfl)
    (hline : (apos.endLine == pos.line) = true := by rfl) (hs : starEach (e :: es) X.env = (false, eval e X.env) :: starEach es X.env := by rfl) (hplain : (backTo pos (starEach es X.env)).any (·.1) = false := by rfl) : EvE J X (.Call (.Attribute o name apos) (e :: es) [] pos) env N t P := fun σ H I Q W S C =>
  PE.w (pe_bm pa slot hty mr_w pe_w pa_w hbase hfew hline hs hplain) (h σ H I _ W S fun v x I1 N1 t1 H1 e1 W1 r ⟨ty, k⟩ => ⟨ty.ty W1 r, k σ H1 I1 _ W1 (S.mono e1) fun vs ds I2 N2 t2 H2 e2 W2 r2 m => m I2 H2 v vs Q W2 (r.mono e2) r2 (C.ex (e1.trans e2))⟩)
theorem md_r {id : String} {r : V → List V → Hp → VK → Prop} (hm : MtR X id r) {x : D} {ds : List D} (h : ∀ I H v vs Q, Wd J X.K I N t H → R X.K I v x → RA X.K I vs ds → KV1 J X I P Q → r v vs H Q) : MtD J X id x ds N t P := fun I H v vs Q W r1 ra C => mr_to hm (h I H v vs Q W r1 ra C)
theorem md_append {p : Addr} {xs : List D} {d : D} (hp : N p = some (.lst xs)) (hz : xs.length < 100000) (h : P .non (put N p (.lst (xs ++ [d]))) t) : MtD J X "list.append" (.ref p) [d] N t P := md_r mt_append fun I H v vs Q W r ra C => by
  obtain ⟨u, rfl, ru⟩ := ra.one_inv
  obtain ⟨hi, ys, hH, q⟩ := W.own p _ hp
  refine ⟨p, ys, u, r.ref_inv, rfl, hH, by rw [q.length]; exact Nat.lt_of_lt_of_le hz (by decide), ?_⟩
  exact C _ _ I _ t _ (Ex.refl I) (W.mut (d' := .lst (xs ++ [d])) hp ⟨_, upd_same, q.append (.one ru)⟩) .non h
theorem md_popAt {p : Addr} {xs : List D} {i : Int} {k : Nat} {d : D} (hp : N p = some (.lst xs)) (hi : seqIndex? i xs.length = some k) (hd : xs[k]? = some d) (hz : -(2 ^ 63) ≤ i ∧ i < 2 ^ 63) (h : P d (put N p (.lst (xs.eraseIdx k))) t) : MtD J X "list.pop" (.ref p) [.int i] N t P := md_r mt_popAt fun I H v vs Q W r ra C => by
  obtain ⟨u, rfl, ru⟩ := ra.one_inv
  obtain ⟨hn, ys, hH, q⟩ := W.own p _ hp
  obtain ⟨y, hy, ry⟩ := q.get hd
  refine ⟨p, ys, i, k, y, r.ref_inv, by rw [ru.int_inv], hH, hz.1, hz.2, by rw [q.length]; exact hi, hy, ?_⟩
  exact C _ _ I _ t _ (Ex.refl I) (W.mut (d' := .lst (xs.eraseIdx k)) hp ⟨_, upd_same, q.eraseIdx k⟩) ry h
theorem md_clearL {p : Addr} {xs : List D} (hp : N p = some (.lst xs)) (h : P .non (put N p (.lst [])) t) : MtD J X "list.clear" (.ref p) [] N t P := md_r mt_clear fun I H v vs Q W r ra C => by
  cases ra
  obtain ⟨hi, ys, hH, q⟩ := W.own p _ hp
  exact ⟨p, ys, r.ref_inv, rfl, hH, C _ _ I _ t _ (Ex.refl I) (W.mut (d' := .lst []) hp ⟨_, upd_same, .nil⟩) .non h⟩
theorem md_extend {p : Addr} {xs ys : List D} {y : D} (hp : N p = some (.lst xs)) (hy : y = .lst ys) (hz : xs.length + ys.length ≤ 100000) (h : P .non (put N p (.lst (xs ++ ys))) t)
    (hl : ∀ I H v, Wd J X.K I N t H → R X.K I v (.lst ys) → ∃ b vs, v = .ref b ∧ H b = some (.lst vs) ∧ RA X.K I vs ys) : MtD J X "list.extend" (.ref p) [y] N t P := md_r mt_extend fun I H v vs Q W r ra C => by
  subst hy
  obtain ⟨u, rfl, ru⟩ := ra.one_inv
  obtain ⟨hi, zs, hH, q⟩ := W.own p _ hp
  obtain ⟨b, us, rfl, hb, q2⟩ := hl I H u W ru
  refine ⟨p, b, zs, us, r.ref_inv, rfl, hH, hb, by rw [q.length, q2.length]; exact Nat.le_trans hz (by decide), ?_⟩
  exact C _ _ I _ t _ (Ex.refl I) (W.mut (d' := .lst (xs ++ ys)) hp ⟨_, upd_same, q.append q2⟩) .non h

/-! ### what loops walk -/
/-- an iterator gives these data, one by one, whatever grows -/
def Src (J : τ → Hp → Prop) (X : Cx) (Jt : It) (I : Hp) (ds : List D) (Kp : NN → Prop) : Prop := ∀ i I' N' t' H', Ex I I' → Wd J X.K I' N' t' H' → Kp N' →
  (∀ d, ds[i]? = some d → Jt.go i H' ∧ ∀ x H'', Jt.yld i H' x H'' → ∃ I'', Ex I' I'' ∧ Wd J X.K I'' N' t' H'' ∧ R X.K I'' x d) ∧ (ds.length ≤ i → Jt.stop i H')
def wI (X : Cx) (tg iter : Expr) : TI := fun σ H Rk => ∀ pins s, Inv X pins σ H s → wpAny (model X.prog X.w) X.A (eval iter X.env) (fun v s1 => wpAny (model X.prog X.w) X.A (pyIter v) (PIE X pins σ tg Rk) X.xe s1) X.xe s
theorem pi_w {tg iter : Expr} : PI X tg iter (wI X tg iter) := ⟨fun pins s _ _ _ I h => h pins s I⟩
theorem pi_to {tg iter : Expr} {wi : TI} (h : PI X tg iter wi) {σ : L2.St} {H : Hp} {Rk : It → Hp → Prop} (q : wi σ H Rk) : wI X tg iter σ H Rk := fun pins s I => h.run pins s σ H Rk I q
def PiE (J : τ → Hp → Prop) (X : Cx) (tg iter : Expr) (env : EnvD) (N : NN) (t : τ) (P : List D → (NN → Prop) → NN → τ → Prop) : Prop :=
  ∀ σ H I Rk, Wd J X.K I N t H → Sl X.K I σ env → (∀ Jt ds Kp I' N' t' H', Ex I I' → Wd J X.K I' N' t' H' → Src J X Jt I' ds Kp → P ds Kp N' t' → Rk Jt H') → wI X tg iter σ H Rk
theorem src_range {I : Hp} {lo : Int} {n : Nat} : Src J X (Itr lo n) I ((List.range n).map fun (i : Nat) => D.int (lo + (i : Int))) (fun _ => True) := fun i I' N' t' H' e W _ => by
  refine ⟨fun d h => ?_, fun h => (show n ≤ i by simpa using h)⟩
  rw [List.getElem?_map] at h
  by_cases lt : i < n
  · rw [List.getElem?_range lt] at h
    have h : D.int (lo + (i : Int)) = d := by simpa using h
    subst h
    refine ⟨lt, fun x H'' ⟨e1, e2⟩ => ?_⟩
    subst e1 e2
    exact ⟨I', Ex.refl I', W, .int _⟩
  · rw [List.getElem?_eq_none (by simpa using lt)] at h; cases h
theorem pi_rng {tg a : Expr} {p : Pos} {PI : List D → (NN → Prop) → NN → τ → Prop} (hm : X.mg "range" = none) (h : EvE J X a env N t fun d N1 t1 => ∃ j : Int, d = .int j ∧ -(2 ^ 62) ≤ j ∧ j < 2 ^ 62 ∧ PI ((List.range j.toNat).map fun (i : Nat) => D.int (i : Int)) (fun _ => True) N1 t1)
    (hg : Gl X "range" := by rfl) (hs : starEach [a] X.env = [(false, eval a X.env)] := by rfl) : PiE J X tg (.Call (.Name "range" p) [a] [] pos) env N t PI := fun σ H I Rk W S C =>
  pi_to (pi_range1 hg hm (pa_cons pe_w pa_nil hs) hs) (h σ H I _ W S fun v d I1 N1 t1 H1 e1 W1 r ⟨j, ed, h1, h2, q⟩ => by
    subst ed
    refine ⟨j, by rw [r.int_inv], h1, h2, C _ _ _ I1 N1 t1 H1 e1 W1 ?_ q⟩
    have z := src_range (J := J) (X := X) (I := I1) (lo := 0) (n := j.toNat)
    simpa using z)
theorem src_list {I : Hp} {a : Addr} {ys : List V} {ds : List D} {Kp : NN → Prop} (r : RA X.K I ys ds) (h : ∀ I' N' t' H', Ex I I' → Wd J X.K I' N' t' H' → Kp N' → SqL X.K H' a ys) (inj : ∀ H', ∀ zs, SqL X.K H' a ys → SqL X.K H' a zs → True) : Src J X (Itl X.K a) I ds Kp := fun i I' N' t' H' e W k => by
  have sq := h I' N' t' H' e W k
  refine ⟨fun d hd => ?_, fun hl => ⟨ys, sq, by rw [r.length]; exact hl⟩⟩
  obtain ⟨v, hv, rv⟩ := r.get hd
  refine ⟨⟨ys, v, sq, hv⟩, fun x H'' ⟨e1, e2⟩ => ?_⟩
  subst e1
  have := e2 ys sq
  rw [hv] at this; cases this
  exact ⟨I', Ex.refl I', W, rv.mono e⟩
theorem src_tup {I : Hp} {a : Addr} {ys : List V} {ds : List D} {Kp : NN → Prop} (r : RA X.K I ys ds) (h : ∀ I' N' t' H', Ex I I' → Wd J X.K I' N' t' H' → Kp N' → SqT X.K H' a ys) : Src J X (Itt X.K a) I ds Kp := fun i I' N' t' H' e W k => by
  have sq := h I' N' t' H' e W k
  refine ⟨fun d hd => ?_, fun hl => ⟨ys, sq, by rw [r.length]; exact hl⟩⟩
  obtain ⟨v, hv, rv⟩ := r.get hd
  refine ⟨⟨ys, v, sq, hv⟩, fun x H'' ⟨e1, e2⟩ => ?_⟩
  subst e1
  have := e2 ys sq
  rw [hv] at this; cases this
  exact ⟨I', Ex.refl I', W, rv.mono e⟩
/-- a list that is frozen -/
theorem pi_lst {tg e : Expr} {PI : List D → (NN → Prop) → NN → τ → Prop} (h : EvE J X e env N t fun d N1 t1 => ∃ ds, (d = .lst ds ∨ d = .klst ds) ∧ PI ds (fun _ => True) N1 t1) : PiE J X tg e env N t PI := fun σ H I Rk W S C =>
  pi_to (pi_list pe_w) (h σ H I _ W S fun v d I1 N1 t1 H1 e1 W1 r ⟨ds, ed, q⟩ => by
    have hh : ∃ a ys, v = .ref a ∧ SqL X.K I1 a ys ∧ RA X.K I1 ys ds := by
      rcases ed with rfl | rfl
      · obtain ⟨a, ys, rfl, s, q⟩ := r.lst_inv; exact ⟨a, ys, rfl, SqL.of s, q⟩
      · exact r.klst_inv
    obtain ⟨a, ys, rfl, sq, ra⟩ := hh
    exact ⟨a, rfl, ⟨ys, W1.ex.l sq⟩, C _ _ _ I1 N1 t1 H1 e1 W1 (src_list (Kp := fun _ => True) ra (fun I' N' t' H' e W _ => (e.trans W.ex).l sq) (fun _ _ _ _ => trivial)) q⟩)
/-- a list that is owned, and stays -/
theorem pi_lstN {tg e : Expr} {PI : List D → (NN → Prop) → NN → τ → Prop} (h : EvE J X e env N t fun d N1 t1 => ∃ p ds, d = .ref p ∧ N1 p = some (.lst ds) ∧ PI ds (fun N' => N' p = some (.lst ds)) N1 t1) : PiE J X tg e env N t PI := fun σ H I Rk W S C =>
  pi_to (pi_list pe_w) (h σ H I _ W S fun v d I1 N1 t1 H1 e1 W1 r ⟨p, ds, ed, hp, q⟩ => by
    subst ed
    rw [r.ref_inv]
    obtain ⟨hi, ys, hH, ra⟩ := W1.own p _ hp
    refine ⟨p, rfl, ⟨ys, SqL.of hH⟩, C (Itl X.K p) ds (fun N' => N' p = some (.lst ds)) I1 N1 t1 H1 e1 W1 (fun i I' N' t' H' e W k => ?_) q⟩
    obtain ⟨_, zs, hz, rz⟩ := W.own p _ k
    refine ⟨fun d hd => ?_, fun hl => ⟨zs, SqL.of hz, by rw [rz.length]; exact hl⟩⟩
    obtain ⟨w, hw, rw'⟩ := rz.get hd
    refine ⟨⟨zs, w, SqL.of hz, hw⟩, fun x H'' ⟨e1, e2⟩ => ?_⟩
    subst e1
    have := e2 zs (SqL.of hz)
    rw [hw] at this; cases this
    exact ⟨I', Ex.refl I', W, rw'⟩)
theorem pi_tp {tg e : Expr} {PI : List D → (NN → Prop) → NN → τ → Prop} (h : EvE J X e env N t fun d N1 t1 => ∃ ds, TV d ds ∧ PI ds (fun _ => True) N1 t1) : PiE J X tg e env N t PI := fun σ H I Rk W S C =>
  pi_to (pi_tup pe_w) (h σ H I _ W S fun v d I1 N1 t1 H1 e1 W1 r ⟨ds, ed, q⟩ => by
    have hh : ∃ a ys, v = .ref a ∧ SqT X.K I1 a ys ∧ RA X.K I1 ys ds := by
      rcases ed with rfl | rfl
      · obtain ⟨a, ys, rfl, s, q⟩ := r.tup_inv; exact ⟨a, ys, rfl, SqT.of s, q⟩
      · exact r.ktup_inv
    obtain ⟨a, ys, rfl, sq, ra⟩ := hh
    exact ⟨a, rfl, ⟨ys, W1.ex.t sq⟩, C _ _ _ I1 N1 t1 H1 e1 W1 (src_tup (Kp := fun _ => True) ra (fun I' N' t' H' e W _ => (e.trans W.ex).t sq)) q⟩)

/-! ### for, while -/
theorem st_for {tg iter : Expr} {body : List Stmt} (hp : PassesOwn (model X.prog X.w) X.A X.env X.xe) (hc : X.calm = true)
    (h : PiE J X tg iter env N t fun ds Kp N1 t1 => ∃ Iv : Nat → EnvD → NN → τ → Prop, Iv 0 env N1 t1 ∧ (∀ i env N t, Iv i env N t → Kp N) ∧
      (∀ i d env N t, ds[i]? = some d → Iv i env N t → TgE J X tg d env N t fun env' N' t' => StS J X body env' N' t' { nx := Iv (i + 1), ct := Iv (i + 1), bk := E.nx, rt := E.rt }) ∧ (∀ env N t, Iv ds.length env N t → E.nx env N t))
    (hs : ∀ x, foldedSetIterable iter X.env x = pure x := by intro _; rfl) : StE J X (.For tg iter body [] pos) env N t E := fun σ H I G W S C =>
  PS.w (ps_for hp hc pi_w pg_w pss_w hs) (h σ H I _ W S fun Jt ds Kp I1 N1 t1 H1 e1 W1 src ⟨Iv, h0, hK, turn, fin⟩ => by
    refine ⟨fun i m σ' H' => m = ds.length - i ∧ i ≤ ds.length ∧ ∃ env' I' N' t', Ex I1 I' ∧ Wd J X.K I' N' t' H' ∧ Sl X.K I' σ' env' ∧ Iv i env' N' t', ⟨_, rfl, Nat.zero_le _, env, I1, N1, t1, Ex.refl I1, W1, S.mono e1, h0⟩, ?_⟩
    rintro i m σ' H' ⟨rfl, hi, env', I', N', t', e', W', S', iv⟩
    obtain ⟨s1, s2⟩ := src i I' N' t' H' e' W' (hK _ _ _ _ iv)
    by_cases lt : i < ds.length
    · obtain ⟨go, yl⟩ := s1 ds[i] (List.getElem?_eq_getElem lt)
      refine .inr ⟨go, fun σ2 H2 => ∃ env2 I2 N2 t2, Ex I1 I2 ∧ Wd J X.K I2 N2 t2 H2 ∧ Sl X.K I2 σ2 env2 ∧ Iv (i + 1) env2 N2 t2, fun σ2 H2 ⟨env2, I2, N2, t2, a, b, c, d⟩ => ⟨ds.length - (i + 1), by omega, rfl, lt, env2, I2, N2, t2, a, b, c, d⟩, fun x H2 y => ?_⟩
      obtain ⟨I2, e2, W2, r2⟩ := yl x H2 y
      have tn := turn i ds[i] env' N' t' (List.getElem?_eq_getElem lt) iv
      refine tn x σ' H2 I2 _ W2 (S'.mono e2) r2 fun env3 I3 N3 t3 σ3 H3 e3 W3 S3 st => ?_
      have ee : Ex I1 I3 := (e'.trans e2).trans e3
      exact st σ3 H3 I3 _ W3 S3 ⟨fun env4 I4 N4 t4 σ4 H4 e4 W4 S4 q => ⟨env4, I4, N4, t4, ee.trans e4, W4, S4, q⟩, fun v d I4 N4 t4 H4 e4 W4 r q => C.rt v d I4 N4 t4 H4 (e1.trans (ee.trans e4)) W4 r q,
        fun env4 I4 N4 t4 σ4 H4 e4 W4 S4 q => C.nx env4 I4 N4 t4 σ4 H4 (e1.trans (ee.trans e4)) W4 S4 q, fun env4 I4 N4 t4 σ4 H4 e4 W4 S4 q => ⟨env4, I4, N4, t4, ee.trans e4, W4, S4, q⟩⟩
    · have e : i = ds.length := by omega
      subst e
      exact .inl ⟨s2 (Nat.le_refl _), C.nx env' I' N' t' σ' H' (e1.trans e') W' S' (fin _ _ _ iv)⟩)
theorem st_while {c : Expr} {body : List Stmt} (hp : PassesOwn (model X.prog X.w) X.A X.env X.xe) (Iv : Nat → EnvD → NN → τ → Prop) (h0 : ∃ m, Iv m env N t)
    (turn : ∀ m env N t, Iv m env N t → EvT J X c env N t fun b N1 t1 => (b = true → StS J X body env N1 t1 { nx := fun e' N' t' => ∃ m', m' < m ∧ Iv m' e' N' t', ct := fun e' N' t' => ∃ m', m' < m ∧ Iv m' e' N' t', bk := E.nx, rt := E.rt }) ∧ (b = false → E.nx env N1 t1)) :
    StE J X (.While c body [] pos) env N t E := fun σ H I G W S C =>
  PS.w (ps_while hp pt_w pss_w) (by
    obtain ⟨m0, h0⟩ := h0
    refine ⟨fun m σ' H' => ∃ env' I' N' t', Ex I I' ∧ Wd J X.K I' N' t' H' ∧ Sl X.K I' σ' env' ∧ Iv m env' N' t', ⟨m0, env, I, N, t, Ex.refl I, W, S, h0⟩, ?_⟩
    rintro m σ' H' ⟨env', I', N', t', e', W', S', iv⟩
    refine turn m env' N' t' iv σ' H' I' _ W' S' fun b I1 N1 t1 H1 e1 W1 p => ?_
    cases b with
    | true =>
      refine iteT ⟨fun σ2 H2 => ∃ m', m' < m ∧ ∃ env2 I2 N2 t2, Ex I I2 ∧ Wd J X.K I2 N2 t2 H2 ∧ Sl X.K I2 σ2 env2 ∧ Iv m' env2 N2 t2, fun σ2 H2 h => h, ?_⟩
      have ee : Ex I I1 := e'.trans e1
      exact p.1 rfl σ' H1 I1 _ W1 (S'.mono e1) ⟨fun env4 I4 N4 t4 σ4 H4 e4 W4 S4 ⟨m', lt, q⟩ => ⟨m', lt, env4, I4, N4, t4, ee.trans e4, W4, S4, q⟩, fun v d I4 N4 t4 H4 e4 W4 r q => C.rt v d I4 N4 t4 H4 (ee.trans e4) W4 r q,
        fun env4 I4 N4 t4 σ4 H4 e4 W4 S4 q => C.nx env4 I4 N4 t4 σ4 H4 (ee.trans e4) W4 S4 q, fun env4 I4 N4 t4 σ4 H4 e4 W4 S4 ⟨m', lt, q⟩ => ⟨m', lt, env4, I4, N4, t4, ee.trans e4, W4, S4, q⟩⟩
    | false => exact iteF (C.nx env' I1 N1 t1 σ' H1 (e'.trans e1) W1 (S'.mono e1) (p.2 rfl)))
end
end Y
/-! Y, part 6: a state that is told by data, opened and closed. -/
namespace Y
open PySem PySem.Spec PyProof.Rows L2

/-- two tables of owned things together -/
def uni (N M : NN) : NN := fun p => match M p with | some d => some d | none => N p
theorem uni_r {N M : NN} {p : Addr} {d : D} (h : M p = some d) : uni N M p = some d := by unfold uni; rw [h]
theorem uni_l {N M : NN} {p : Addr} (h : M p = none) : uni N M p = N p := by unfold uni; rw [h]
theorem uni_put {N M : NN} {p : Addr} {d : D} : put (uni N M) p d = uni N (put M p d) := by
  funext q
  by_cases h : q = p
  · subst h; rw [put_same, uni_r put_same]
  · rw [put_ne h]
    cases e : M q with
    | none => rw [uni_l e, uni_l (by rw [put_ne h]; exact e)]
    | some x => rw [uni_r e, uni_r (by rw [put_ne h]; exact e)]
/-- flat, or an address -/
def closed1 : D → Bool
  | .non => true | .bl _ => true | .int _ => true | .str _ => true | .ref _ => true
  | _ => false
def closedO : D → Bool
  | .lst xs => xs.all closed1
  | .dk kvs => (kvs.map (·.2)).all closed1
  | _ => false
def H0 : Hp := fun _ => none
theorem R.closed {K : PySem.W.Frag} {I I' : Hp} {v : V} {d : D} (r : R K I v d) (h : closed1 d = true) : R K I' v d := by
  cases r <;> first
    | (cases h; done)
    | constructor
theorem RA.closed {K : PySem.W.Frag} {I I' : Hp} : ∀ {vs : List V} {ds : List D}, RA K I vs ds → ds.all closed1 = true → RA K I' vs ds
  | _, _, .nil, _ => .nil
  | _, _, .cons r t, h => by
    rw [List.all_cons, Bool.and_eq_true] at h
    exact .cons (r.closed h.1) (RA.closed t h.2)
theorem Own.closed {K : PySem.W.Frag} {I I' H : Hp} {p : Addr} {d : D} (o : Own K I H p d) (h : closedO d = true) : Own K I' H p d := by
  cases d with
  | lst xs => obtain ⟨ys, a, b⟩ := o; exact ⟨ys, a, b.closed h⟩
  | dk kvs => obtain ⟨ys, a, k, b⟩ := o; exact ⟨ys, a, k, b.closed h⟩
  | _ => cases h
/-- a state that is told by owned data -/
def Jof {τ : Type} (K : PySem.W.Frag) (φ : τ → NN → Prop) (t : τ) (S : Hp) : Prop := ∃ M, φ t M ∧ (∀ p d, M p = some d → closedO d = true ∧ Own K H0 S p d) ∧ ∀ p, M p = none → S p = none
/-- no state -/
def J0 : Unit → Hp → Prop := fun _ S => S = H0
section
variable {τ : Type} {K : PySem.W.Frag} {φ : τ → NN → Prop} {I H : Hp} {N : NN} {t : τ}
theorem ex_H0 {I : Hp} : Ex H0 I := fun _ _ h => by cases h
theorem Own.heap {K : PySem.W.Frag} {I H H' : Hp} {p : Addr} {d : D} (o : Own K I H p d) (h : ∀ u, H p = Option.some u → H' p = Option.some u) : Own K I H' p d := by
  cases d with
  | lst xs => obtain ⟨ys, a, b⟩ := o; exact ⟨ys, h _ a, b⟩
  | dk kvs => obtain ⟨ys, a, k, b⟩ := o; exact ⟨ys, h _ a, k, b⟩
  | dt kvs => obtain ⟨ys, a, k, b⟩ := o; exact ⟨ys, h _ a, k, b⟩
  | ins C fs => obtain ⟨dx, ys, a, k, b⟩ := o; exact ⟨dx, ys, h _ a, k, b⟩
  | _ => exact o.elim
theorem Wd.open (W : Wd (Jof K φ) K I N t H) : ∃ M, φ t M ∧ (∀ p d, M p = some d → closedO d = true ∧ N p = none) ∧ Wd J0 K I (uni N M) () H := by
  obtain ⟨S, ⟨M, ph, own, non⟩, hs⟩ := W.st
  refine ⟨M, ph, fun p d e => ?_, ⟨W.ex, fun p d e => ?_, ⟨H0, rfl, fun a o e => by cases e⟩⟩⟩
  · obtain ⟨c, o⟩ := own p d e
    obtain ⟨u, hu⟩ := o.some
    exact ⟨c, (hs p u hu).2.2⟩
  · cases q : M p with
    | some d' =>
      rw [uni_r q] at e
      cases e
      obtain ⟨c, o⟩ := own p d q
      obtain ⟨u, hu⟩ := o.some
      obtain ⟨x, y, z⟩ := hs p u hu
      exact ⟨y, (o.mono ex_H0 rfl).heap fun u' hu' => (hs p u' hu').1⟩
    | none =>
      rw [uni_l q] at e
      exact W.own p d e
theorem Wd.close {M N' : NN} {u : Unit} (W : Wd J0 K I N' u H) (ph : φ t M) (e : N' = uni N M) (hc : ∀ p d, M p = some d → closedO d = true ∧ N p = none) : Wd (Jof K φ) K I N t H := by
  subst e
  refine ⟨W.ex, fun p d q => ?_, ?_⟩
  · cases z : M p with
    | some d' => rw [(hc p d' z).2] at q; cases q
    | none => exact W.own p d (by rw [uni_l z]; exact q)
  · refine ⟨fun p => match M p with | some _ => H p | none => none, ⟨M, ph, fun p d q => ?_, fun p q => by simp [q]⟩, fun a o q => ?_⟩
    · refine ⟨(hc p d q).1, ?_⟩
      have o := ((W.own p d (uni_r q)).2.closed (I' := H0) (hc p d q).1)
      exact o.heap fun u hu => by simp [q]; exact hu
    · cases z : M a with
      | none => simp [z] at q
      | some d =>
        simp [z] at q
        exact ⟨q, (W.own a d (uni_r z)).1, (hc a d z).2⟩
end
section
variable {τ : Type} {X : Cx} {φ : τ → NN → Prop} {env : EnvD} {N : NN} {t : τ} {E : EndD τ}
/-- what is wanted, over the opened world -/
def opn (φ : τ → NN → Prop) (Q : NN → τ → Prop) (N' : NN) : Prop := ∃ M N2 t2, N' = uni N2 M ∧ φ t2 M ∧ (∀ p d, M p = some d → closedO d = true ∧ N2 p = none) ∧ Q N2 t2
theorem ss_open {K : PySem.W.Frag} {st : List Stmt} (h : ∀ M, φ t M → (∀ p d, M p = some d → closedO d = true ∧ N p = none) → StS J0 X st env (uni N M) () { nx := fun e' N' _ => opn φ (E.nx e') N', rt := fun d N' _ => opn φ (E.rt d) N', bk := fun e' N' _ => opn φ (E.bk e') N', ct := fun e' N' _ => opn φ (E.ct e') N' })
    (hK : X.K = K := by rfl) : StS (Jof K φ) X st env N t E := fun σ H I G W S C => by
  subst hK
  obtain ⟨M, ph, hc, W0⟩ := W.open
  refine h M ph hc σ H I G W0 S ⟨?_, ?_, ?_, ?_⟩
  · rintro env' I' N' t' σ' H' e W' S' ⟨M', N2, t2, eN, ph', hc', q⟩
    exact C.nx env' I' N2 t2 σ' H' e (W'.close ph' eN hc') S' q
  · rintro v d I' N' t' H' e W' r ⟨M', N2, t2, eN, ph', hc', q⟩
    exact C.rt v d I' N2 t2 H' e (W'.close ph' eN hc') r q
  · rintro env' I' N' t' σ' H' e W' S' ⟨M', N2, t2, eN, ph', hc', q⟩
    exact C.bk env' I' N2 t2 σ' H' e (W'.close ph' eN hc') S' q
  · rintro env' I' N' t' σ' H' e W' S' ⟨M', N2, t2, eN, ph', hc', q⟩
    exact C.ct env' I' N2 t2 σ' H' e (W'.close ph' eN hc') S' q
theorem StE.mono {J : τ → Hp → Prop} {st : Stmt} {E' : EndD τ} (h : StE J X st env N t E) (hn : ∀ a b c, E.nx a b c → E'.nx a b c) (hr : ∀ a b c, E.rt a b c → E'.rt a b c) (hb : ∀ a b c, E.bk a b c → E'.bk a b c) (hc : ∀ a b c, E.ct a b c → E'.ct a b c) : StE J X st env N t E' := fun σ H I G W S C =>
  h σ H I G W S ⟨fun env' I' N' t' σ' H' e W' S' p => C.nx env' I' N' t' σ' H' e W' S' (hn _ _ _ p), fun v d I' N' t' H' e W' r p => C.rt v d I' N' t' H' e W' r (hr _ _ _ p),
    fun env' I' N' t' σ' H' e W' S' p => C.bk env' I' N' t' σ' H' e W' S' (hb _ _ _ p), fun env' I' N' t' σ' H' e W' S' p => C.ct env' I' N' t' σ' H' e W' S' (hc _ _ _ p)⟩
/-- what holds between two statements, said -/
theorem ss_cut {J : τ → Hp → Prop} {st : Stmt} {rest : List Stmt} (A : EnvD → NN → τ → Prop) (h : StE J X st env N t { E with nx := A }) (k : ∀ e' N' t', A e' N' t' → StS J X rest e' N' t' E) : StS J X (st :: rest) env N t E :=
  ss_cons (h.mono k (fun _ _ _ x => x) (fun _ _ _ x => x) (fun _ _ _ x => x))
end
end Y
/-! Y, part 7: comprehensions. -/
namespace Y
open PySem PySem.Spec PyProof.Rows L2

/-- the own names of a block, forgotten -/
def wipeD (env : EnvD) : List Nat → EnvD
  | [] => env
  | v :: vs => (wipeD env vs).set v none
theorem Sl.wipe {K : PySem.W.Frag} {I : Hp} {σ : L2.St} {env : EnvD} (s : Sl K I σ env) : ∀ vs : List Nat, Sl K I (wipe σ vs) (wipeD env vs)
  | [] => s
  | _ :: vs => (Sl.wipe s vs).forget none
/-- the block of a comprehension: whatever state it is entered in -/
abbrev BlkX (X : Cx) (scope : Scope) (s : Shared) (H : Hp) (C : Addr) (cl : List (Str × Addr)) (fp : List Addr) : Cx := X.blk s H scope (compEnvC scope cl C X.env) fp
def wEB (X : Cx) (scope : Scope) (e : Expr) : TE := fun σ H Q => ∀ s H0 C cl fp, wE (BlkX X scope s H0 C cl fp) e σ H Q
def wGB (X : Cx) (scope : Scope) (tg : Expr) : TG := fun v σ H Q => ∀ s H0 C cl fp, wG (BlkX X scope s H0 C cl fp) tg v σ H Q
def wTsB (X : Cx) (scope : Scope) (ifs : List Expr) : TT := fun σ H Q => ∀ s0 H0 C cl fp, ∀ pins s, Inv (BlkX X scope s0 H0 C cl fp) pins σ H s →
  wpAny (model X.prog X.w) X.A (forIn ifs true fun c r => if r = true then do let ok ← isTrue c (BlkX X scope s0 H0 C cl fp).env (eval c (BlkX X scope s0 H0 C cl fp).env); pure (ForInStep.yield ok) else pure (ForInStep.yield r)) (TP (BlkX X scope s0 H0 C cl fp) pins σ Q) (BlkX X scope s0 H0 C cl fp).xe s
section
variable {X : Cx} {scope : Scope}
theorem pe_wB {e : Expr} (s : Shared) (H : Hp) (C : Addr) (cl : List (Str × Addr)) (fp : List Addr) : PE (BlkX X scope s H C cl fp) e (wEB X scope e) := ⟨fun pins s1 _ _ _ I h => h s H C cl fp pins s1 I⟩
theorem pg_wB {tg : Expr} (s : Shared) (H : Hp) (C : Addr) (cl : List (Str × Addr)) (fp : List Addr) : PG (BlkX X scope s H C cl fp) tg (wGB X scope tg) := ⟨fun pins s1 _ _ _ u _ I r h => h s H C cl fp pins s1 u I r⟩
theorem pts_wB {ifs : List Expr} (s : Shared) (H : Hp) (C : Addr) (cl : List (Str × Addr)) (fp : List Addr) : PTs (BlkX X scope s H C cl fp) ifs (wTsB X scope ifs) := ⟨fun pins s1 _ _ _ I h => h s H C cl fp pins s1 I⟩
end
section
variable {τ : Type} {J : τ → Hp → Prop} {X : Cx} {env : EnvD} {N : NN} {t : τ} {pos : Pos} {P : D → NN → τ → Prop} {E : EndD τ}
/-- in each block -/
def InB (X : Cx) (scope : Scope) (G : Cx → Prop) : Prop := ∀ s H C cl fp, G (BlkX X scope s H C cl fp)
/-- the tests of a comprehension: none | one -/
def EvTs (J : τ → Hp → Prop) (X : Cx) (ifs : List Expr) (env : EnvD) (N : NN) (t : τ) (P : Bool → NN → τ → Prop) : Prop :=
  match ifs with
  | [] => P true N t
  | [c] => EvT J X c env N t P
  | _ => False
theorem EvTs.go {ifs : List Expr} {scope : Scope} {PB : Bool → NN → τ → Prop} (h : InB X scope fun X' => EvTs J X' ifs env N t PB) {σ : L2.St} {H I : Hp} {Q : Bool → Hp → Prop} (W : Wd J X.K I N t H) (S : Sl X.K I σ env)
    (C : ∀ b I' N' t' H', Ex I I' → Wd J X.K I' N' t' H' → PB b N' t' → Q b H') : wTsB X scope ifs σ H Q := fun s0 H0 Ca cl fp pins s Iv => by
  have h := h s0 H0 Ca cl fp
  match ifs, h with
  | [], h => exact (pts_nil (X := BlkX X scope s0 H0 Ca cl fp)).run pins s σ H Q Iv (C true I N t H (Ex.refl I) W h)
  | [c], h => exact (pts_one (X := BlkX X scope s0 H0 Ca cl fp) pt_w).run pins s σ H Q Iv (h σ H I Q W S C)
  | _ :: _ :: _, h => exact h.elim
/-! targets by their readings -/
/-- a target that stores into the block's own names alone -/
def OwnG (vs : List Nat) (g : TG) : Prop := ∀ v σ H (Q : L2.St → Hp → Prop), g v σ H Q → g v σ H fun σ2 H2 => wipe σ2 vs = wipe σ vs ∧ Q σ2 H2
def OwnGs (vs : List Nat) (g : TGs) : Prop := ∀ us σ H (Q : L2.St → Hp → Prop), g us σ H Q → g us σ H fun σ2 H2 => wipe σ2 vs = wipe σ vs ∧ Q σ2 H2
theorem wipe_set_mem {i : Nat} {x : Option V} : ∀ {vs : List Nat} {σ : L2.St}, i ∈ vs → wipe (σ.set i x) vs = wipe σ vs
  | [], _, h => by cases h
  | v :: vs, σ, h => by
    by_cases e : v = i
    · subst e
      by_cases m : v ∈ vs
      · unfold wipe; rw [wipe_set_mem m]
      · have comm : ∀ (ws : List Nat) (σ : L2.St), v ∉ ws → wipe (σ.set v x) ws = (wipe σ ws).set v x := by
          intro ws
          induction ws with
          | nil => intro σ _; rfl
          | cons w ws ih =>
            intro σ hn
            unfold wipe
            rw [ih σ (fun z => hn (List.mem_cons_of_mem _ z)), List.set_comm _ _ (fun z => hn (by rw [z]; exact List.mem_cons_self))]
        unfold wipe
        rw [comm vs σ m, List.set_set]
    · have m : i ∈ vs := by
        rcases List.mem_cons.mp h with z | z
        · exact absurd z.symm e
        · exact z
      unfold wipe
      rw [wipe_set_mem m]
theorem wipe_sub {vs : List Nat} {σ : L2.St} : ∀ {us : List Nat}, (∀ u ∈ us, u ∈ vs) → wipe (wipe σ us) vs = wipe σ vs
  | [], _ => rfl
  | u :: us, h => by
    show wipe ((wipe σ us).set u none) vs = _
    rw [wipe_set_mem (h u List.mem_cons_self), wipe_sub fun x hx => h x (List.mem_cons_of_mem _ hx)]
theorem wipe_wipe {vs : List Nat} {σ : L2.St} : wipe (wipe σ vs) vs = wipe σ vs := wipe_sub fun _ h => h
theorem OwnG.at {vs : List Nat} {g : TG} (h : OwnG vs g) {v : V} {σ : L2.St} {H : Hp} {Q : L2.St → Hp → Prop} (q : g v (wipe σ vs) H Q) : g v (wipe σ vs) H fun σ2 H2 => wipe σ2 vs = wipe σ vs ∧ Q σ2 H2 := by
  have z := h v (wipe σ vs) H Q q
  simp only [wipe_wipe] at z
  exact z
theorem og_name {vs : List Nat} {i : Nat} (h : i ∈ vs) : OwnG vs (gName i) := fun v σ H Q q => ⟨wipe_set_mem h, q⟩
theorem og_nil {vs : List Nat} : OwnGs vs gNil := fun us σ H Q ⟨e, q⟩ => ⟨e, rfl, q⟩
theorem og_cons {vs : List Nat} {g : TG} {gs : TGs} (h : OwnG vs g) (hs : OwnGs vs gs) (mono : ∀ v σ H (Q Q' : L2.St → Hp → Prop), (∀ a b, Q a b → Q' a b) → g v σ H Q → g v σ H Q') (monos : ∀ v σ H (Q Q' : L2.St → Hp → Prop), (∀ a b, Q a b → Q' a b) → gs v σ H Q → gs v σ H Q') : OwnGs vs (gCons g gs) := fun us σ H Q ⟨v, r, e, q⟩ => by
  refine ⟨v, r, e, mono v σ H _ _ ?_ (h v σ H _ q)⟩
  rintro σ1 H1 ⟨e1, q1⟩
  exact monos r σ1 H1 _ _ (fun a b ⟨e2, q2⟩ => ⟨e2.trans e1, q2⟩) (hs r σ1 H1 _ q1)
theorem og_tup {vs : List Nat} {K : PySem.W.Frag} {n : Nat} {gs : TGs} (hs : OwnGs vs gs) : OwnG vs (gTup K n gs) := fun v σ H Q ⟨a, xs, e, s, l, q⟩ => ⟨a, xs, e, s, l, hs xs σ H Q q⟩
theorem og_pair {vs : List Nat} {K : PySem.W.Frag} {i j : Nat} (hi : i ∈ vs) (hj : j ∈ vs) : OwnG vs (gTup K 2 (gCons (gName i) (gCons (gName j) gNil))) :=
  og_tup (og_cons (og_name hi) (og_cons (og_name hj) og_nil (fun _ _ _ _ _ k q => k _ _ q) (fun _ _ _ _ _ k ⟨e, q⟩ => ⟨e, k _ _ q⟩)) (fun _ _ _ _ _ k q => k _ _ q)
    (fun _ _ _ _ _ k ⟨v, r, e, e2, q⟩ => ⟨v, r, e, e2, k _ _ q⟩))
/-- a target, by its reading, takes a thing -/
def TgR (J : τ → Hp → Prop) (X : Cx) (g : TG) (d : D) (env : EnvD) (N : NN) (t : τ) (P : EnvD → NN → τ → Prop) : Prop :=
  ∀ v σ H I (Q : L2.St → Hp → Prop), Wd J X.K I N t H → Sl X.K I σ env → R X.K I v d → (∀ env' I' N' t' σ' H', Ex I I' → Wd J X.K I' N' t' H' → Sl X.K I' σ' env' → P env' N' t' → Q σ' H') → g v σ H Q
theorem tr_name {i : Nat} {d : D} {PE : EnvD → NN → τ → Prop} (h : PE (env.set i (some d)) N t) : TgR J X (gName i) d env N t PE := fun v σ H I Q W S r C => C _ I N t _ H (Ex.refl I) W (S.set r) h
theorem tr_pair {i j : Nat} {x d e : D} {PE : EnvD → NN → τ → Prop} (hx : TV x [d, e]) (h : PE ((env.set i (some d)).set j (some e)) N t) : TgR J X (gTup X.K 2 (gCons (gName i) (gCons (gName j) gNil))) x env N t PE := fun v σ H I Q W S r C => by
  obtain ⟨a, ys, rfl, sq, ra⟩ := hx.sq W r
  obtain ⟨v1, v2, rfl, r1, r2⟩ := ra.two_inv
  exact ⟨a, [v1, v2], rfl, sq, rfl, v1, [v2], rfl, v2, [], rfl, rfl, C _ I N t _ H (Ex.refl I) W ((S.set r1).set r2) h⟩

/-! ### list comprehensions -/
theorem lc_run {elt tg iter : Expr} {ifs : List Expr} {scope : Scope} {own : List (Str × Nat)} {g : TG} (og : OwnG (own.map (·.2)) g) {PL : Addr → List D → NN → τ → Prop}
    (h : PiE J X tg iter env N t fun ds Kp N1 t1 => ∀ p, N1 p = none → ∃ Iv : Nat → List D → NN → τ → Prop, Iv 0 [] (put N1 p (.lst [])) t1 ∧ (∀ i acc N t, Iv i acc N t → Kp N ∧ N p = some (.lst acc)) ∧
      (∀ i d acc N t, ds[i]? = some d → Iv i acc N t → TgR J X g d (wipeD env (own.map (·.2))) N t fun env' N1 t1 => InB X scope fun X' => EvTs J X' ifs env' N1 t1 fun b N2 t2 =>
        (b = false → Iv (i + 1) acc N2 t2) ∧ (b = true → InB X scope fun X' => EvE J X' elt env' N2 t2 fun e N3 t3 => N3 p = some (.lst acc) ∧ acc.length < 100000 ∧ Iv (i + 1) (acc ++ [e]) (put N3 p (.lst (acc ++ [e]))) t3)) ∧
      (∀ acc N t, Iv ds.length acc N t → PL p acc N t))
    {σ : L2.St} {H I : Hp} {Q : VK} (W : Wd J X.K I N t H) (S : Sl X.K I σ env) (C : ∀ p acc I' N' t' H', Ex I I' → Wd J X.K I' N' t' H' → N' p = some (.lst acc) → PL p acc N' t' → Q (.ref p) H') :
    tLc (wI X tg iter) g (wTsB X scope ifs) (wEB X scope elt) (own.map (·.2)) σ H Q := by
  refine h σ H I _ W S fun Jt ds Kp I1 N1 t1 H1 e1 W1 src hh p hp => ?_
  obtain ⟨Iv, h0, keep, turn, fin⟩ := hh p (W1.nfresh hp)
  refine ⟨fun i m H' => m = ds.length - i ∧ i ≤ ds.length ∧ ∃ I' acc N' t', Ex I1 I' ∧ Wd J X.K I' N' t' H' ∧ Iv i acc N' t', ⟨_, rfl, Nat.zero_le _, I1, [], _, t1, Ex.refl I1, W1.newN (d := .lst []) hp ⟨[], upd_same, .nil⟩, h0⟩, ?_⟩
  rintro i m H' ⟨rfl, hi, I', acc, N', t', e', W', iv⟩
  obtain ⟨kp, np⟩ := keep _ _ _ _ iv
  obtain ⟨s1, s2⟩ := src i I' N' t' H' e' W' kp
  by_cases lt : i < ds.length
  · obtain ⟨go, yl⟩ := s1 ds[i] (List.getElem?_eq_getElem lt)
    refine .inr ⟨go, fun H2 => ∃ I2 acc2 N2 t2, Ex I1 I2 ∧ Wd J X.K I2 N2 t2 H2 ∧ Iv (i + 1) acc2 N2 t2, fun H2 ⟨I2, acc2, N2, t2, a, b, c⟩ => ⟨ds.length - (i + 1), by omega, rfl, lt, I2, acc2, N2, t2, a, b, c⟩, fun x H2 y => og.at ?_⟩
    obtain ⟨I2, e2, W2, r2⟩ := yl x H2 y
    have Sw : Sl X.K I2 (wipe σ (own.map (·.2))) (wipeD env (own.map (·.2))) := (S.mono (e1.trans (e'.trans e2))).wipe _
    refine turn i ds[i] acc N' t' (List.getElem?_eq_getElem lt) iv x _ H2 I2 _ W2 Sw r2 fun env3 I3 N3 t3 σ3 H3 e3 W3 S3 ts => ?_
    refine EvTs.go ts W3 S3 fun b I4 N4 t4 H4 e4 W4 p4 => ?_
    cases b with
    | false => exact iteF ⟨I4, acc, N4, t4, e'.trans (e2.trans (e3.trans e4)), W4, p4.1 rfl⟩
    | true =>
      refine iteT fun s0 H0 Ca cl fp => p4.2 rfl s0 H0 Ca cl fp σ3 H4 I4 _ W4 (S3.mono e4) fun v d I5 N5 t5 H5 e5 W5 r5 ⟨n5, l5, iv5⟩ => ?_
      obtain ⟨hi5, ys, hH, ra⟩ := W5.own p _ n5
      refine ⟨ys, hH, by rw [ra.length]; exact Nat.lt_of_lt_of_le l5 (by decide), I5, acc ++ [d], _, t5, e'.trans (e2.trans (e3.trans (e4.trans e5))), ?_, iv5⟩
      exact W5.mut (d' := .lst (acc ++ [d])) n5 ⟨_, upd_same, ra.append (.one r5)⟩
  · have e : i = ds.length := by omega
    subst e
    exact .inl ⟨s2 (Nat.le_refl _), C p acc I' N' t' H' (e1.trans e') W' np (fin _ _ _ iv)⟩
/-- [elt for tg in iter], the list owned behind -/
theorem ev_lcN {elt tg iter : Expr} {ifs : List Expr} {scope : Scope} (own : List (Str × Nat)) {g : TG} (hc : X.calm = true) (hN : X.N.Nodup) (ok : BlkOk X.N X.env.scope scope own)
    (hg : ∀ (s : Shared) (H : Hp) (C : Addr) (cl : List (Str × Addr)) (fp : List Addr), PG (X.blk s H scope (compEnvC scope cl C X.env) fp) tg g) (og : OwnG (own.map (·.2)) g)
    (h : PiE J X tg iter env N t fun ds Kp N1 t1 => ∀ p, N1 p = none → ∃ Iv : Nat → List D → NN → τ → Prop, Iv 0 [] (put N1 p (.lst [])) t1 ∧ (∀ i acc N t, Iv i acc N t → Kp N ∧ N p = some (.lst acc)) ∧
      (∀ i d acc N t, ds[i]? = some d → Iv i acc N t → TgR J X g d (wipeD env (own.map (·.2))) N t fun env' N1 t1 => InB X scope fun X' => EvTs J X' ifs env' N1 t1 fun b N2 t2 =>
        (b = false → Iv (i + 1) acc N2 t2) ∧ (b = true → InB X scope fun X' => EvE J X' elt env' N2 t2 fun e N3 t3 => N3 p = some (.lst acc) ∧ acc.length < 100000 ∧ Iv (i + 1) (acc ++ [e]) (put N3 p (.lst (acc ++ [e]))) t3)) ∧
      (∀ acc N t, Iv ds.length acc N t → P (.ref p) N t))
    (hs : ∀ x, foldedSetIterable iter X.env x = pure x := by intro _; rfl) : EvE J X (.ListComp elt [⟨tg, iter, ifs, 0⟩] scope pos) env N t P := fun σ H I Q W S C =>
  PE.w (pe_lc hc hN pi_w ok hg pts_wB pe_wB hs) (lc_run og h W S fun p acc I' N' t' H' e W' _ q => C _ _ I' N' t' H' e W' (.ref p) q)
/-- what stands below stays -/
def NLe (N N' : NN) : Prop := ∀ q d, N q = some d → N' q = some d
theorem NLe.refl (N : NN) : NLe N N := fun _ _ h => h
theorem NLe.put {N : NN} {p : Addr} {d : D} (h : N p = none) : NLe N (put N p d) := fun q e he => by rw [put_ne (nn_ne he h)]; exact he
/-- a turn that leaves what is owned as it is: the list frozen | by a word over the list made so far and the state -/
abbrev LcT (J : τ → Hp → Prop) (X : Cx) (scope : Scope) (vs : List Nat) (g : TG) (elt : Expr) (ifs : List Expr) (env : EnvD) (N1 : NN) (ds : List D) (Iv : Nat → List D → τ → Prop) : Prop :=
  ∀ i d acc N t, ds[i]? = some d → NLe N1 N → acc.length ≤ i → Iv i acc t → TgR J X g d (wipeD env vs) N t fun env' N1 t1 => InB X scope fun X' => EvTs J X' ifs env' N1 t1 fun b N2 t2 =>
    N2 = N ∧ (b = false → Iv (i + 1) acc t2) ∧ (b = true → InB X scope fun X' => EvE J X' elt env' N t2 fun e N3 t3 => N3 = N ∧ Iv (i + 1) (acc ++ [e]) t3)
theorem lc_word {elt : Expr} {ifs : List Expr} {scope : Scope} {vs : List Nat} {g : TG} {N1 : NN} {t1 : τ} {ds : List D} {p : Addr} (hp : N1 p = none) (Iv : Nat → List D → τ → Prop) (hl : ds.length ≤ 100000) (h0 : Iv 0 [] t1) (turn : LcT J X scope vs g elt ifs env N1 ds Iv) {PL : Addr → List D → NN → τ → Prop}
    (fin : ∀ acc t, acc.length ≤ ds.length → Iv ds.length acc t → PL p acc (put N1 p (.lst acc)) t) (Kp : NN → Prop) (hk : ∀ N, NLe N1 N → Kp N) :
    ∃ Iv : Nat → List D → NN → τ → Prop, Iv 0 [] (put N1 p (.lst [])) t1 ∧ (∀ i acc N t, Iv i acc N t → Kp N ∧ N p = some (.lst acc)) ∧
      (∀ i d acc N t, ds[i]? = some d → Iv i acc N t → TgR J X g d (wipeD env vs) N t fun env' N1 t1 => InB X scope fun X' => EvTs J X' ifs env' N1 t1 fun b N2 t2 =>
        (b = false → Iv (i + 1) acc N2 t2) ∧ (b = true → InB X scope fun X' => EvE J X' elt env' N2 t2 fun e N3 t3 => N3 p = some (.lst acc) ∧ acc.length < 100000 ∧ Iv (i + 1) (acc ++ [e]) (put N3 p (.lst (acc ++ [e]))) t3)) ∧
      (∀ acc N t, Iv ds.length acc N t → PL p acc N t) := by
  refine ⟨fun i acc N t => N = put N1 p (.lst acc) ∧ acc.length ≤ i ∧ i ≤ ds.length ∧ Iv i acc t, ⟨rfl, Nat.le_refl _, Nat.zero_le _, h0⟩, ?_, ?_, ?_⟩
  · rintro i acc N t ⟨rfl, _, _, _⟩
    exact ⟨hk _ (NLe.put hp), put_same⟩
  · rintro i d acc N t hd ⟨rfl, l1, l2, iv⟩
    have lt : i < ds.length := (List.getElem?_eq_some_iff.mp hd).1
    intro v σ H I Q W S r C
    refine turn i d acc _ t hd (NLe.put hp) l1 iv v σ H I Q W S r fun env' I' N' t' σ' H' e W' S' q => C env' I' N' t' σ' H' e W' S' fun s0 H0 Ca cl fp => ?_
    have q := q s0 H0 Ca cl fp
    have cv : ∀ b N2 t2, (N2 = put N1 p (.lst acc) ∧ (b = false → Iv (i + 1) acc t2) ∧ (b = true → InB X scope fun X' => EvE J X' elt env' (put N1 p (.lst acc)) t2 fun e N3 t3 => N3 = put N1 p (.lst acc) ∧ Iv (i + 1) (acc ++ [e]) t3)) →
        (b = false → N2 = put N1 p (.lst acc) ∧ acc.length ≤ i + 1 ∧ i + 1 ≤ ds.length ∧ Iv (i + 1) acc t2) ∧ (b = true → InB X scope fun X' => EvE J X' elt env' N2 t2 fun e N3 t3 => N3 p = some (.lst acc) ∧ acc.length < 100000 ∧ put N3 p (.lst (acc ++ [e])) = put N1 p (.lst (acc ++ [e])) ∧ (acc ++ [e]).length ≤ i + 1 ∧ i + 1 ≤ ds.length ∧ Iv (i + 1) (acc ++ [e]) t3) := by
      rintro b N2 t2 ⟨rfl, a, c⟩
      refine ⟨fun hb => ⟨rfl, by omega, lt, a hb⟩, fun hb s0 H0 Ca cl fp => (c hb s0 H0 Ca cl fp).mono ?_⟩
      rintro e N3 t3 ⟨rfl, q⟩
      exact ⟨put_same, by omega, by rw [put_put], by rw [List.length_append, List.length_singleton]; omega, lt, q⟩
    match ifs, q with
    | [], q => exact cv _ _ _ q
    | [c], q => exact q.mono fun b N2 t2 z => cv b N2 t2 z
    | _ :: _ :: _, q => exact q.elim
  · rintro acc N t ⟨rfl, l1, _, iv⟩
    exact fin acc t l1 iv
/-- [elt for tg in iter]: frozen -/
theorem ev_lc {elt tg iter : Expr} {ifs : List Expr} {scope : Scope} (own : List (Str × Nat)) {g : TG} (hc : X.calm = true) (hN : X.N.Nodup) (ok : BlkOk X.N X.env.scope scope own)
    (hg : ∀ (s : Shared) (H : Hp) (C : Addr) (cl : List (Str × Addr)) (fp : List Addr), PG (X.blk s H scope (compEnvC scope cl C X.env) fp) tg g) (og : OwnG (own.map (·.2)) g)
    (h : PiE J X tg iter env N t fun ds Kp N1 t1 => (∀ N, NLe N1 N → Kp N) ∧ ds.length ≤ 100000 ∧ ∃ Iv : Nat → List D → τ → Prop, Iv 0 [] t1 ∧ LcT J X scope (own.map (·.2)) g elt ifs env N1 ds Iv ∧ (∀ acc t, acc.length ≤ ds.length → Iv ds.length acc t → P (.lst acc) N1 t))
    (hs : ∀ x, foldedSetIterable iter X.env x = pure x := by intro _; rfl) : EvE J X (.ListComp elt [⟨tg, iter, ifs, 0⟩] scope pos) env N t P := by
  refine ev_frz (ev_lcN own hc hN ok hg og (fun σ H I Rk W S C => h σ H I Rk W S fun Jt ds Kp I' N' t' H' e W' src ⟨hk, hl, Iv, h0, turn, fin⟩ => C Jt ds Kp I' N' t' H' e W' src fun p hp => ?_) hs)
  exact lc_word hp Iv hl h0 turn (PL := fun p acc N t => ∃ p' o, D.ref p = .ref p' ∧ N p' = some o ∧ P o (del N p') t) (fun acc t l q => ⟨p, .lst acc, rfl, put_same, by rw [del_put hp]; exact fin acc t l q⟩) Kp hk
/-- x = [elt for tg in iter]: frozen | owned -/
theorem st_setLcN {i : Nat} {y : Str} {py : Pos} {elt tg iter : Expr} {ifs : List Expr} {scope : Scope} {cpos : Pos} (own : List (Str × Nat)) {g : TG} (hc : X.calm = true) (hN : X.N.Nodup) (ok : BlkOk X.N X.env.scope scope own)
    (hg : ∀ (s : Shared) (H : Hp) (C : Addr) (cl : List (Str × Addr)) (fp : List Addr), PG (X.blk s H scope (compEnvC scope cl C X.env) fp) tg g) (og : OwnG (own.map (·.2)) g)
    (h : PiE J X tg iter env N t fun ds Kp N1 t1 => ∀ p, N1 p = none → ∃ Iv : Nat → List D → NN → τ → Prop, Iv 0 [] (put N1 p (.lst [])) t1 ∧ (∀ i acc N t, Iv i acc N t → Kp N ∧ N p = some (.lst acc)) ∧
      (∀ i d acc N t, ds[i]? = some d → Iv i acc N t → TgR J X g d (wipeD env (own.map (·.2))) N t fun env' N1 t1 => InB X scope fun X' => EvTs J X' ifs env' N1 t1 fun b N2 t2 =>
        (b = false → Iv (i + 1) acc N2 t2) ∧ (b = true → InB X scope fun X' => EvE J X' elt env' N2 t2 fun e N3 t3 => N3 p = some (.lst acc) ∧ acc.length < 100000 ∧ Iv (i + 1) (acc ++ [e]) (put N3 p (.lst (acc ++ [e]))) t3)) ∧
      (∀ acc N t, Iv ds.length acc N t → E.nx (env.set i (some (.ref p))) N t))
    (hy : X.N[i]? = some y := by rfl) (hyl : X.env.scope.names.lookup y = some .local := by rfl) (hsw : swapsWith (.ListComp elt [⟨tg, iter, ifs, 0⟩] scope cpos) (some (.Name y py)) pos.line X.env = pure true := by exact sw_true rfl rfl rfl (by decide +kernel))
    (hs : ∀ x, foldedSetIterable iter X.env x = pure x := by intro _; rfl) : StE J X (.Assign [.Name y py] (.ListComp elt [⟨tg, iter, ifs, 0⟩] scope cpos) pos) env N t E := fun σ H I G W S C =>
  PS.w (ps_setLc hc hN hy hyl hsw pi_w ok hg pts_wB pe_wB hs) (lc_run og h W S fun p acc I' N' t' H' e W' _ q => C.nx _ I' N' t' _ H' e W' ((S.mono e).set (.ref p)) q)
theorem st_setLc {i : Nat} {y : Str} {py : Pos} {elt tg iter : Expr} {ifs : List Expr} {scope : Scope} {cpos : Pos} (own : List (Str × Nat)) {g : TG} (hc : X.calm = true) (hN : X.N.Nodup) (ok : BlkOk X.N X.env.scope scope own)
    (hg : ∀ (s : Shared) (H : Hp) (C : Addr) (cl : List (Str × Addr)) (fp : List Addr), PG (X.blk s H scope (compEnvC scope cl C X.env) fp) tg g) (og : OwnG (own.map (·.2)) g)
    (h : PiE J X tg iter env N t fun ds Kp N1 t1 => (∀ N, NLe N1 N → Kp N) ∧ ds.length ≤ 100000 ∧ ∃ Iv : Nat → List D → τ → Prop, Iv 0 [] t1 ∧ LcT J X scope (own.map (·.2)) g elt ifs env N1 ds Iv ∧ (∀ acc t, acc.length ≤ ds.length → Iv ds.length acc t → E.nx (env.set i (some (.lst acc))) N1 t))
    (hy : X.N[i]? = some y := by rfl) (hyl : X.env.scope.names.lookup y = some .local := by rfl) (hsw : swapsWith (.ListComp elt [⟨tg, iter, ifs, 0⟩] scope cpos) (some (.Name y py)) pos.line X.env = pure true := by exact sw_true rfl rfl rfl (by decide +kernel))
    (hs : ∀ x, foldedSetIterable iter X.env x = pure x := by intro _; rfl) : StE J X (.Assign [.Name y py] (.ListComp elt [⟨tg, iter, ifs, 0⟩] scope cpos) pos) env N t E := fun σ H I G W S C => by
  refine PS.w (ps_setLc hc hN hy hyl hsw pi_w ok hg pts_wB pe_wB hs) (lc_run (PL := fun p acc N t => E.nx (env.set i (some (.lst acc))) (del N p) t) og (fun σ H I Rk W S C => h σ H I Rk W S fun Jt ds Kp I' N' t' H' e W' src ⟨hk, hl, Iv, h0, turn, fin⟩ => C Jt ds Kp I' N' t' H' e W' src fun p hp => ?_) W S ?_)
  · exact lc_word hp Iv hl h0 turn (PL := fun p acc N t => E.nx (env.set i (some (.lst acc))) (del N p) t) (fun acc t l q => by rw [del_put hp]; exact fin acc t l q) Kp hk
  · intro p acc I' N' t' H' e W' np q
    obtain ⟨I2, e2, W2, r2⟩ := W'.freeze np
    exact C.nx _ I2 _ t' _ H' (e.trans e2) W2 ((S.mono (e.trans e2)).set r2) q
end
end Y
/-! Y, part 8: dict displays, dict comprehensions, making, repr, isinstance, own ==, more built-ins. -/
namespace Y
open PySem PySem.Spec PyProof.Rows L2

section
variable {τ : Type} {J : τ → Hp → Prop} {X : Cx} {env : EnvD} {N : NN} {t : τ} {pos : Pos} {P : D → NN → τ → Prop} {E : EndD τ}
/-- more lies in the heap -/
theorem Wd.wide {K : PySem.W.Frag} {I H H' : Hp} (W : Wd J K I N t H) (e : Ex H H') : Wd J K I N t H' := by
  refine ⟨W.ex.trans e, fun p d h => ⟨(W.own p d h).1, ?_⟩, ?_⟩
  · obtain ⟨u, q⟩ := (W.own p d h).2.some
    exact (W.own p d h).2.mono (Ex.refl I) ((e _ _ q).trans q.symm)
  · obtain ⟨S, j, hs⟩ := W.st
    exact ⟨S, j, fun a o h => ⟨e _ _ (hs a o h).1, (hs a o h).2⟩⟩

/-! ### dict displays -/
def mergeP (kvs more : List (Key × D)) : List (Key × D) := more.foldl (fun acc kv => putP acc kv.1 kv.2) kvs
theorem RP.merge {K : PySem.W.Frag} {I : Hp} : ∀ {more : List (Key × V)} {ms : List (Key × D)} {kvs : List (Key × V)} {ds : List (Key × D)}, RP K I more ms → RP K I kvs ds → RP K I (mergeK kvs more) (mergeP ds ms)
  | more, [], kvs, ds, h, r => by
    cases more with
    | nil => exact r
    | cons p q => have := h.1; simp at this
  | more, m :: ms, kvs, ds, h, r => by
    obtain ⟨v, q, rfl, a, b⟩ := h.inv
    show RP K I (mergeK (putK kvs m.1 v) q) (mergeP (putP ds m.1 m.2) ms)
    exact RP.merge b (r.put m.1 a)
theorem putP_new {κ : Type} [DecidableEq κ] {β : Type} {k : κ} {v : β} {r : List (κ × β)} (h : ∀ p ∈ r, ¬ p.1 = k) : putP r k v = r ++ [(k, v)] := by
  unfold putP
  rw [if_neg]
  intro e
  obtain ⟨p, hp, q⟩ := List.any_eq_true.mp e
  exact h p hp (of_decide_eq_true q)
theorem mergeP_app : ∀ {more kvs : List (Key × D)}, ((kvs ++ more).map (·.1)).Nodup → mergeP kvs more = kvs ++ more
  | [], kvs, _ => by show kvs = kvs ++ []; rw [List.append_nil]
  | m :: ms, kvs, h => by
    show mergeP (putP kvs m.1 m.2) ms = _
    have h1 : ∀ p ∈ kvs, ¬ p.1 = m.1 := by
      intro p hp e
      rw [List.map_append, List.nodup_append] at h
      exact h.2.2 _ (List.mem_map_of_mem hp) _ (List.mem_map_of_mem List.mem_cons_self) e
    have e : putP kvs m.1 m.2 = kvs ++ [m] := by rw [putP_new h1]
    rw [e, mergeP_app (by rw [List.append_assoc]; exact h), List.append_assoc]; rfl
theorem mergeP_nil {more : List (Key × D)} (h : (more.map (·.1)).Nodup) : mergeP [] more = more := mergeP_app h
/-- the pairs of a display -/
def EvP (J : τ → Hp → Prop) (X : Cx) (env : EnvD) : List (Option Expr) → List Expr → NN → τ → (List (D × D) → NN → τ → Prop) → Prop
  | some k :: ks, v :: vs, N, t, PL => EvE J X k env N t fun x N1 t1 => EvE J X v env N1 t1 fun y N2 t2 => EvP J X env ks vs N2 t2 fun ps N3 t3 => PL ((x, y) :: ps) N3 t3
  | [], [], N, t, PL => PL [] N t
  | _, _, _, _, _ => False
def okP : List (Option Expr) → List Expr → Bool
  | some _ :: ks, _ :: vs => okP ks vs
  | [], [] => true
  | _, _ => false
theorem ep_nil {PL : List (D × D) → NN → τ → Prop} (h : PL [] N t) : EvP J X env [] [] N t PL := h
theorem ep_cons {k v : Expr} {ks : List (Option Expr)} {vs : List Expr} {PL : List (D × D) → NN → τ → Prop} (h : EvE J X k env N t fun x N1 t1 => EvE J X v env N1 t1 fun y N2 t2 => EvP J X env ks vs N2 t2 fun ps N3 t3 => PL ((x, y) :: ps) N3 t3) :
    EvP J X env (some k :: ks) (v :: vs) N t PL := h
def trsOf (X : Cx) : List (Option Expr) → List Expr → List (TE × TE)
  | some k :: ks, v :: vs => (wE X k, wE X v) :: trsOf X ks vs
  | _, _ => []
theorem pps_of : ∀ {keys : List (Option Expr)} {values : List Expr}, okP keys values = true → PPs X pos keys values (trsOf X keys values)
  | some _ :: ks, _ :: vs, h => pps_cons pe_w pe_w (pps_of (keys := ks) (values := vs) h)
  | [], [], _ => pps_nil
  | [], _ :: _, h => Bool.noConfusion h
  | none :: _, [], h => Bool.noConfusion h
  | none :: _, _ :: _, h => Bool.noConfusion h
  | some _ :: _, [], h => Bool.noConfusion h
theorem EvP.go : ∀ {keys : List (Option Expr)} {values : List Expr} {N : NN} {t : τ} {PL : List (D × D) → NN → τ → Prop}, okP keys values = true → EvP J X env keys values N t PL → ∀ {σ : L2.St} {H I : Hp} {Q : List (V × V) → Hp → Prop}, Wd J X.K I N t H → Sl X.K I σ env →
    (∀ vs ps I' N' t' H', Ex I I' → Wd J X.K I' N' t' H' → RA X.K I' (vs.map (·.1)) (ps.map (·.1)) → RA X.K I' (vs.map (·.2)) (ps.map (·.2)) → PL ps N' t' → Q vs H') → tPairs (trsOf X keys values) σ H Q
  | some k :: ks, v :: vs, N, t, PL, hk, h, σ, H, I, Q, W, S, C => h σ H I _ W S fun a x I1 N1 t1 H1 e1 W1 r1 h2 => h2 σ H1 I1 _ W1 (S.mono e1) fun b y I2 N2 t2 H2 e2 W2 r2 h3 =>
      EvP.go (keys := ks) (values := vs) hk h3 W2 (S.mono (e1.trans e2)) fun ws ps I3 N3 t3 H3 e3 W3 ra rb q => C ((a, b) :: ws) ((x, y) :: ps) I3 N3 t3 H3 ((e1.trans e2).trans e3) W3 (.cons (r1.mono (e2.trans e3)) ra) (.cons (r2.mono e3) rb) q
  | [], [], N, t, PL, hk, h, σ, H, I, Q, W, S, C => C [] [] I N t H (Ex.refl I) W .nil .nil h
  | [], _ :: _, _, _, _, h, _, _, _, _, _, _, _, _ => Bool.noConfusion h
  | none :: _, [], _, _, _, h, _, _, _, _, _, _, _, _ => Bool.noConfusion h
  | none :: _, _ :: _, _, _, _, h, _, _, _, _, _, _, _, _ => Bool.noConfusion h
  | some _ :: _, [], _, _, _, h, _, _, _, _, _, _, _, _ => Bool.noConfusion h
theorem pairs_back {K : PySem.W.Frag} {I : Hp} : ∀ {kvs : List (Key × D)} {ws : List (V × V)}, RA K I (ws.map (·.1)) ((kvs.map fun kv => (keyD kv.1, kv.2)).map (·.1)) → RA K I (ws.map (·.2)) ((kvs.map fun kv => (keyD kv.1, kv.2)).map (·.2)) →
    ∃ ms : List (Key × V), ws = ms.map (fun kv => (kV kv.1, kv.2)) ∧ RP K I ms kvs
  | [], [], _, _ => ⟨[], rfl, .nil⟩
  | [], _ :: _, h, _ => by simp only [List.map_cons, List.map_nil] at h; cases h
  | _ :: _, [], h, _ => by simp only [List.map_cons, List.map_nil] at h; cases h
  | (k, d) :: r, (a, b) :: ws, h1, h2 => by
    simp only [List.map_cons] at h1 h2
    cases h1 with
    | cons x y =>
      cases h2 with
      | cons z u =>
        obtain ⟨ms, rfl, q⟩ := pairs_back (kvs := r) (ws := ws) y u
        exact ⟨(k, b) :: ms, by rw [keyD_inv x]; rfl, q.cons z⟩
/-- {k: v, ..}, keys ints or texts, owned -/
theorem ev_disp {keys : List (Option Expr)} {values : List Expr} (h : ∀ p, N p = none → EvP J X env keys values (put N p (.dk [])) t fun ps N1 t1 => N1 p = some (.dk []) ∧ ∃ kvs : List (Key × D), ps = kvs.map (fun kv => (keyD kv.1, kv.2)) ∧ kvs.length ≤ 15 ∧ P (.ref p) (put N1 p (.dk (mergeP [] kvs))) t1)
    (ok : okP keys values = true := by rfl) (hall : keys.all (·.isSome) = true := by rfl) (hl : keys.length = values.length := by rfl) (h0 : keys ≠ [] := by exact fun e => nomatch e) (h15 : keys.length ≤ 15 := by decide) : EvE J X (.Dict keys values pos) env N t P := fun σ H I Q W S C =>
  PE.w (pe_disp (pps_of ok) hall hl h0 h15) fun p hp => (h p (W.nfresh hp)).go ok (W.newN (d := .dk []) hp ⟨[], upd_same, rfl, .nil⟩) S fun ws ps I1 N1 t1 H1 e1 W1 ra rb ⟨np, kvs, ek, hk, q⟩ => by
    subst ek
    obtain ⟨ms, rfl, rp⟩ := pairs_back ra rb
    obtain ⟨hi, ys, hH, ky, rk⟩ := W1.own p _ np
    cases ys with
    | cons a b => simp at ky
    | nil =>
      refine ⟨hH, ms, rfl, by rw [rp.length]; exact hk, ?_⟩
      have rr := RP.merge rp (RP.nil (K := X.K) (I := I1))
      exact C _ _ I1 _ t1 _ e1 (W1.mut (d' := .dk (mergeP [] kvs)) np ⟨_, upd_same, rr.1, rr.2⟩) (.ref p) q

/-! ### dict comprehensions -/
/-- {k: v for tg in iter}, the dict owned behind -/
theorem ev_dcN {kx vx tg iter : Expr} {ifs : List Expr} {scope : Scope} (own : List (Str × Nat)) {g : TG} (hc : X.calm = true) (hN : X.N.Nodup) (ok : BlkOk X.N X.env.scope scope own)
    (hg : ∀ (s : Shared) (H : Hp) (C : Addr) (cl : List (Str × Addr)) (fp : List Addr), PG (X.blk s H scope (compEnvC scope cl C X.env) fp) tg g) (og : OwnG (own.map (·.2)) g)
    (h : PiE J X tg iter env N t fun ds Kp N1 t1 => ∀ p, N1 p = none → ∃ Iv : Nat → List (Key × D) → NN → τ → Prop, Iv 0 [] (put N1 p (.dk [])) t1 ∧ (∀ i acc N t, Iv i acc N t → Kp N ∧ N p = some (.dk acc)) ∧
      (∀ i d acc N t, ds[i]? = some d → Iv i acc N t → TgR J X g d (wipeD env (own.map (·.2))) N t fun env' N1 t1 => InB X scope fun X' => EvTs J X' ifs env' N1 t1 fun b N2 t2 =>
        (b = false → Iv (i + 1) acc N2 t2) ∧ (b = true → InB X scope fun X' => EvE J X' kx env' N2 t2 fun y N3 t3 => InB X scope fun X'' => EvE J X'' vx env' N3 t3 fun z N4 t4 =>
          ∃ k, y = keyD k ∧ N4 p = some (.dk acc) ∧ acc.length < 100000 ∧ Iv (i + 1) (putP acc k z) (put N4 p (.dk (putP acc k z))) t4)) ∧
      (∀ acc N t, Iv ds.length acc N t → P (.ref p) N t))
    (hs : ∀ x, foldedSetIterable iter X.env x = pure x := by intro _; rfl) : EvE J X (.DictComp kx vx [⟨tg, iter, ifs, 0⟩] scope pos) env N t P := fun σ H I Q W S C =>
  PE.w (pe_dc hc hN pi_w ok hg pts_wB pe_wB pe_wB hs) <| by
  refine h σ H I _ W S fun Jt ds Kp I1 N1 t1 H1 e1 W1 src hh p hp => ?_
  obtain ⟨Iv, h0, keep, turn, fin⟩ := hh p (W1.nfresh hp)
  refine ⟨fun i m H' => m = ds.length - i ∧ i ≤ ds.length ∧ ∃ I' acc N' t', Ex I1 I' ∧ Wd J X.K I' N' t' H' ∧ Iv i acc N' t', ⟨_, rfl, Nat.zero_le _, I1, [], _, t1, Ex.refl I1, W1.newN (d := .dk []) hp ⟨[], upd_same, rfl, .nil⟩, h0⟩, ?_⟩
  rintro i m H' ⟨rfl, hi, I', acc, N', t', e', W', iv⟩
  obtain ⟨kp, np⟩ := keep _ _ _ _ iv
  obtain ⟨s1, s2⟩ := src i I' N' t' H' e' W' kp
  by_cases lt : i < ds.length
  · obtain ⟨go, yl⟩ := s1 ds[i] (List.getElem?_eq_getElem lt)
    refine .inr ⟨go, fun H2 => ∃ I2 acc2 N2 t2, Ex I1 I2 ∧ Wd J X.K I2 N2 t2 H2 ∧ Iv (i + 1) acc2 N2 t2, fun H2 ⟨I2, acc2, N2, t2, a, b, c⟩ => ⟨ds.length - (i + 1), by omega, rfl, lt, I2, acc2, N2, t2, a, b, c⟩, fun x H2 y => og.at ?_⟩
    obtain ⟨I2, e2, W2, r2⟩ := yl x H2 y
    have Sw : Sl X.K I2 (wipe σ (own.map (·.2))) (wipeD env (own.map (·.2))) := (S.mono (e1.trans (e'.trans e2))).wipe _
    refine turn i ds[i] acc N' t' (List.getElem?_eq_getElem lt) iv x _ H2 I2 _ W2 Sw r2 fun env3 I3 N3 t3 σ3 H3 e3 W3 S3 ts => ?_
    refine EvTs.go ts W3 S3 fun b I4 N4 t4 H4 e4 W4 p4 => ?_
    cases b with
    | false => exact iteF ⟨I4, acc, N4, t4, e'.trans (e2.trans (e3.trans e4)), W4, p4.1 rfl⟩
    | true =>
      refine iteT fun s0 H0 Ca cl fp => p4.2 rfl s0 H0 Ca cl fp σ3 H4 I4 _ W4 (S3.mono e4) fun v d I5 N5 t5 H5 e5 W5 r5 q5 => ?_
      refine fun s0 H0 Ca cl fp => q5 s0 H0 Ca cl fp σ3 H5 I5 _ W5 (S3.mono (e4.trans e5)) fun u z I6 N6 t6 H6 e6 W6 r6 ⟨k, ek, n6, l6, iv6⟩ => ?_
      subst ek
      obtain ⟨hi6, ys, hH, rp⟩ := W6.own p _ n6
      refine ⟨ys, k, keyD_inv r5, hH, by rw [RP.length rp]; exact Nat.lt_of_lt_of_le l6 (by decide), I6, putP acc k z, _, t6, e'.trans (e2.trans (e3.trans (e4.trans (e5.trans e6)))), ?_, iv6⟩
      exact W6.mut (d' := .dk (putP acc k z)) n6 ⟨_, upd_same, (RP.put rp k r6).1, (RP.put rp k r6).2⟩
  · have e : i = ds.length := by omega
    subst e
    exact .inl ⟨s2 (Nat.le_refl _), C _ _ I' N' t' H' (e1.trans e') W' (.ref p) (fin _ _ _ iv)⟩

/-! ### making -/
theorem Wd.made {I H : Hp} {x dx C : Addr} (W : Wd J X.K I N t H) (hx : H x = none) (hdx : H dx = none) (hne : dx ≠ x) : Wd J X.K I (put N x (.ins C [])) t (upd (upd H dx (.own x)) x (.ins C dx [])) := by
  have h2 : upd H dx (.own x) x = none := by rw [upd_ne (Ne.symm hne)]; exact hx
  exact (W.wide (Ex.new hdx)).newN (d := .ins C []) h2 ⟨dx, [], upd_same, rfl, .nil⟩
section
variable {k n : Nat} {f C : Addr} {fd : FuncData} {ps ks : List Str} {pre : PreD τ} {x : Str} {p : Pos} {e : Expr} {es : List Expr} {kws : List Keyword}
/-- C(e, ..), all positional; what __init__ promises of the new instance -/
theorem ev_make {dvs : List V} {dd : List D} {ds0 : List Value} (M : Mk X.K C f) (F : FnG X.prog X.w X.K X.mg X.base CX0 k f fd ps (Fsp J X.K pre)) (hr : Rm (k + 1) X.A) (hm : X.mg x = some (.ref C)) (hb : Binds X.K fd ps ds0) (hd : Vals dvs ds0) (hdd : ∀ I, RA X.K I dvs dd)
    (h : EvA J X (e :: es) env N t fun ds N1 t1 => 1 + ds.length + dd.length = ps.length ∧ ∀ q, N1 q = none → pre (.ref q :: (ds ++ dd)) (put N1 q (.ins C [])) t1 fun z N2 t2 => z = .non ∧ P (.ref q) N2 t2)
    (hg : Gl X x := by rfl) (hdb : (x == ("__debug__" : Str)) = false := by decide) (he : starEach (e :: es) X.env = (false, eval e X.env) :: starEach es X.env := by rfl) (hpl : (backTo pos (starEach es X.env)).any (·.1) = false := by rfl) :
    EvE J X (.Call (.Name x p) (e :: es) [] pos) env N t P := fun σ H I Q W S CC =>
  PE.w (pg_make M F hr hg hm hb hd pass0 pa_w hdb he hpl) (h σ H I _ W S fun vs ds I1 N1 t1 H1 e1 W1 r ⟨l, q⟩ => ⟨by rw [r.length, (hdd I1).length]; exact l, fun y dx hy hdx hne =>
    ⟨I1, _, t1, _, _, W1.made hy hdx hne, .cons (.ref y) (r.append (hdd I1)), q y (W1.nfresh hy), fun v z I' N' t' H' e' W' r' ⟨ez, pz⟩ => by
      subst ez
      exact ⟨r'.non_inv, CC _ _ I' N' t' H' (e1.trans e') W' (.ref y) pz⟩⟩⟩)
/-- the values of keywords -/
def EvK (J : τ → Hp → Prop) (X : Cx) (env : EnvD) : List Keyword → NN → τ → (List D → NN → τ → Prop) → Prop
  | [], N, t, PL => PL [] N t
  | kw :: kws, N, t, PL => EvE J X kw.value env N t fun x N1 t1 => EvK J X env kws N1 t1 fun xs N2 t2 => PL (x :: xs) N2 t2
def wK (X : Cx) : List Keyword → TA
  | [] => tNil
  | kw :: kws => tCons (wE X kw.value) (wK X kws)
theorem pk_w : ∀ {kws : List Keyword}, PK X kws (wK X kws)
  | [] => pk_nil
  | ⟨_, _, _⟩ :: kws => pk_cons pe_w (pk_w (kws := kws))
theorem ek_nil {PL : List D → NN → τ → Prop} (h : PL [] N t) : EvK J X env [] N t PL := h
theorem ek_cons {nm : Option Str} {kp : Pos} {PL : List D → NN → τ → Prop} (h : EvE J X e env N t fun x N1 t1 => EvK J X env kws N1 t1 fun xs N2 t2 => PL (x :: xs) N2 t2) : EvK J X env (⟨nm, e, kp⟩ :: kws) N t PL := h
theorem EvK.go : ∀ {kws : List Keyword} {N : NN} {t : τ} {PL : List D → NN → τ → Prop}, EvK J X env kws N t PL → ∀ {σ : L2.St} {H I : Hp} {Q : List V → Hp → Prop}, Wd J X.K I N t H → Sl X.K I σ env →
    (∀ vs ds I' N' t' H', Ex I I' → Wd J X.K I' N' t' H' → RA X.K I' vs ds → PL ds N' t' → Q vs H') → wK X kws σ H Q
  | [], N, t, PL, h, σ, H, I, Q, W, S, C => C [] [] I N t H (Ex.refl I) W .nil h
  | kw :: kws, N, t, PL, h, σ, H, I, Q, W, S, C => h σ H I _ W S fun v d I1 N1 t1 H1 e1 W1 r1 k => EvK.go (kws := kws) k W1 (S.mono e1) fun vs ds I2 N2 t2 H2 e2 W2 r2 q => C (v :: vs) (d :: ds) I2 N2 t2 H2 (e1.trans e2) W2 (.cons (r1.mono e2) r2) q
variable {g : List Value → List Value → List Value} {gV : List V → List V → List V} {gD : List D → List D → List D}
/-- C(e, .., k = v, ..) -/
theorem ev_makeK (M : Mk X.K C f) (F : FnG X.prog X.w X.K X.mg X.base CX0 k f fd ps (Fsp J X.K pre)) (hr : Rm (k + 1) X.A) (hm : X.mg x = some (.ref C)) (hb : KBn X.K fd ps (n + 1) ks g gV) (hrel : ∀ I vs ds us zs, RA X.K I vs ds → RA X.K I us zs → RA X.K I (gV vs us) (gD ds zs))
    (h : EvA J X (e :: es) env N t fun ds N1 t1 => EvK J X env kws N1 t1 fun zs N2 t2 => ds.length = n ∧ zs.length = ks.length ∧ ∀ q, N2 q = none → pre (gD (.ref q :: ds) zs) (put N2 q (.ins C [])) t2 fun z N3 t3 => z = .non ∧ P (.ref q) N3 t3)
    (hg : Gl X x := by rfl) (hall : (backToKw pos (keywordEach kws X.env)).all (·.1.isSome) = true := by rfl) (hks : (backToKw pos (keywordEach kws X.env)).filterMap (·.1) = ks := by rfl) (hdb : (x == ("__debug__" : Str)) = false := by decide)
    (he : starEach (e :: es) X.env = (false, eval e X.env) :: starEach es X.env := by rfl) (hpl : ((backTo pos (starEach (e :: es) X.env)).any (·.1) || (backToKw pos (keywordEach kws X.env)).any (·.1.isNone)) = false := by rfl) :
    EvE J X (.Call (.Name x p) (e :: es) kws pos) env N t P := fun σ H I Q W S CC =>
  PE.w (pg_makeN M F hr hg hm hb pass0 pa_w pk_w hall hks hdb he hpl) (h σ H I _ W S fun vs ds I1 N1 t1 H1 e1 W1 r k => k.go W1 (S.mono e1) fun us zs I2 N2 t2 H2 e2 W2 r2 ⟨l1, l2, q⟩ => ⟨by rw [r.length]; exact l1, by rw [r2.length]; exact l2, fun y dx hy hdx hne =>
    ⟨I2, _, t2, _, _, W2.made hy hdx hne, hrel _ _ _ _ _ (.cons (.ref y) (r.mono e2)) r2, q y (W2.nfresh hy), fun v z I' N' t' H' e' W' r' ⟨ez, pz⟩ => by
      subst ez
      exact ⟨r'.non_inv, CC _ _ I' N' t' H' ((e1.trans e2).trans e') W' (.ref y) pz⟩⟩⟩)
/-- C(k = v, ..) -/
theorem ev_makeK0 (M : Mk X.K C f) (F : FnG X.prog X.w X.K X.mg X.base CX0 k f fd ps (Fsp J X.K pre)) (hr : Rm (k + 1) X.A) (hm : X.mg x = some (.ref C)) (hb : KBn X.K fd ps 1 ks g gV) (hrel : ∀ I vs ds us zs, RA X.K I vs ds → RA X.K I us zs → RA X.K I (gV vs us) (gD ds zs))
    (h : EvK J X env kws N t fun zs N2 t2 => zs.length = ks.length ∧ ∀ q, N2 q = none → pre (gD [.ref q] zs) (put N2 q (.ins C [])) t2 fun z N3 t3 => z = .non ∧ P (.ref q) N3 t3)
    (hg : Gl X x := by rfl) (hall : (backToKw pos (keywordEach kws X.env)).all (·.1.isSome) = true := by rfl) (hks : (backToKw pos (keywordEach kws X.env)).filterMap (·.1) = ks := by rfl) (hdb : (x == ("__debug__" : Str)) = false := by decide)
    (hpl : ((backTo pos (starEach [] X.env)).any (·.1) || (backToKw pos (keywordEach kws X.env)).any (·.1.isNone)) = false := by rfl) :
    EvE J X (.Call (.Name x p) [] kws pos) env N t P := fun σ H I Q W S CC =>
  PE.w (pg_makeN0 M F hr hg hm hb pass0 pk_w hall hks hdb hpl) (h.go W S fun us zs I2 N2 t2 H2 e2 W2 r2 ⟨l2, q⟩ => ⟨rfl, by rw [r2.length]; exact l2, fun y dx hy hdx hne =>
    ⟨I2, _, t2, _, _, W2.made hy hdx hne, hrel _ _ _ _ _ (.cons (.ref y) .nil) r2, q y (W2.nfresh hy), fun v z I' N' t' H' e' W' r' ⟨ez, pz⟩ => by
      subst ez
      exact ⟨r'.non_inv, CC _ _ I' N' t' H' (e2.trans e') W' (.ref y) pz⟩⟩⟩)
/-- f(e, .., k = v, ..) -/
theorem ev_callK (F : FnG X.prog X.w X.K X.mg X.base CX0 k f fd ps (Fsp J X.K pre)) (hr : Rm k X.A) (hm : X.mg x = some (.ref f)) (hk : PySem.W.keepIn X.K (.ref f) = true) (hb : KBn X.K fd ps n ks g gV) (hrel : ∀ I vs ds us zs, RA X.K I vs ds → RA X.K I us zs → RA X.K I (gV vs us) (gD ds zs))
    (h : EvA J X (e :: es) env N t fun ds N1 t1 => EvK J X env kws N1 t1 fun zs N2 t2 => ds.length = n ∧ zs.length = ks.length ∧ pre (gD ds zs) N2 t2 P)
    (hg : Gl X x := by rfl) (hall : (backToKw pos (keywordEach kws X.env)).all (·.1.isSome) = true := by rfl) (hks : (backToKw pos (keywordEach kws X.env)).filterMap (·.1) = ks := by rfl) (hdb : (x == ("__debug__" : Str)) = false := by decide)
    (he : starEach (e :: es) X.env = (false, eval e X.env) :: starEach es X.env := by rfl) (hpl : ((backTo pos (starEach (e :: es) X.env)).any (·.1) || (backToKw pos (keywordEach kws X.env)).any (·.1.isNone)) = false := by rfl) :
    EvE J X (.Call (.Name x p) (e :: es) kws pos) env N t P := fun σ H I Q W S CC =>
  PE.w (pg_callN F hr hg hm hk hb pass0 pa_w pk_w hall hks hdb he hpl) (h σ H I _ W S fun vs ds I1 N1 t1 H1 e1 W1 r k => k.go W1 (S.mono e1) fun us zs I2 N2 t2 H2 e2 W2 r2 ⟨l1, l2, q⟩ => ⟨by rw [r.length]; exact l1, by rw [r2.length]; exact l2,
    I2, N2, t2, _, _, W2, hrel _ _ _ _ _ (r.mono e2) r2, q, CC.ex (e1.trans e2)⟩)
end
end
end Y
/-! sorted(d.items()), the keys ints -/
namespace YS
open PySem PySem.Spec PyProof.Rows L2 L2.DX PySem.Calls

def numOf : Option Value → Int
  | some (.int i _) => i
  | _ => 0
def keyN (h : Heap) (v : Value) : Int := numOf (DT.seqAt0 h (DT.refOf (some v)))
def PairN (h : Heap) (v : Value) (y : Int) : Prop := ∃ (a : Addr) (t : Tok) (u : Value), v = .ref a ∧ IsTup h a #[.int y t, u]
theorem PairN.key {h : Heap} {v : Value} {y : Int} (x : PairN h v y) : keyN h v = y := by
  obtain ⟨a, t, u, rfl, hh⟩ := x
  show numOf (DT.seqAt0 h a) = y
  rw [DT.seqAt0_of hh]; rfl
theorem firsts {h : Heap} : ∀ {vs : List Value}, (∀ v ∈ vs, ∃ x, PairN h v x) → ∃ fs : List Value, PySem.W.KatTups h vs fs ∧ fs.length = vs.length ∧ ∀ f ∈ fs, ∃ x t, f = Value.int x t
  | [], _ => ⟨[], PySem.W.KatTups.nil, rfl, fun _ hm => nomatch hm⟩
  | v :: vs, hp => by
    obtain ⟨fs, h1, h2, h3⟩ := firsts (vs := vs) fun v' hm => hp v' (List.mem_cons_of_mem _ hm)
    obtain ⟨x, a, t, u, rfl, o, ho, hc, n, hd⟩ := hp v List.mem_cons_self
    refine ⟨.int x t :: fs, PySem.W.KatTups.cons ho hc hd rfl h1, congrArg (· + 1) h2, fun f hm => ?_⟩
    cases hm with
    | head => exact ⟨x, t, rfl⟩
    | tail _ hm => exact h3 f hm
section
variable {prog : Program} {w : World} {A : Around} {E : Value → Shared → Prop} {s : Shared}
/-- pairs whose first parts are ints, told apart by them -/
theorem kindN {vs : List Value} (h2 : 2 ≤ vs.length) (x : ∀ v ∈ vs, ∃ y, PairN s.heap v y) (inj : ∀ v ∈ vs, ∀ u ∈ vs, keyN s.heap v = keyN s.heap u → v = u) (Q : SortKind → Shared → Prop)
    (h : ∀ κ, TS.Cmp prog w A s κ (pairsOf vs) (fun v => keyN s.heap v) → Q κ s) : wpAny (model prog w) A (keyKind' vs.toArray) Q E s := by
  obtain ⟨fs, k, hl, hi⟩ := firsts x
  refine PySem.W.kat_kind (T := Value.type "int") k (by omega) (fun f hf => ?_) rfl (h _ ?_)
  · obtain ⟨y, t, rfl⟩ := hi f hf
    exact PySem.W.Looks.now
  · have hb : (Value.type "int" != Value.type "tuple") = true := by first | decide +kernel | rfl | decide
    rw [hb]
    intro p q hp hq Q' E' hQ
    rw [pairsOf_toList] at hp hq
    have mp := (mem_zip_self hp).2
    have mq := (mem_zip_self hq).2
    obtain ⟨y, py⟩ := x _ mp
    obtain ⟨z, pz⟩ := x _ mq
    have hQ : Q' (decide (keyN s.heap p.1 < keyN s.heap q.1)) s := hQ
    have same := inj _ mp _ mq
    rw [py.key, pz.key] at hQ same
    obtain ⟨a, t, u, e1, o, ho, hc, n, hd⟩ := py
    obtain ⟨b, t', u', e2, o', ho', hc', n', hd'⟩ := pz
    rw [e1, e2] at same ⊢
    refine PySem.W.kat_lt ho hd ho' hd' ?_
    show PySem.W.KatLex prog w A true (decide (2 < 2)) Q' [(Value.int y t, Value.int z t'), (u, u')] 0 s
    refine PySem.W.kat_cons (SeqAt.EqAt.int_int y t z t' prog w _ _ ?_)
    refine PySem.W.kat_go (fun e => ?_) (fun e => ?_)
    · have e : y = z := by simpa using e
      have ev := same e
      cases ev
      rw [ho] at ho'; cases ho'
      rw [hd] at hd'; cases hd'
      refine PySem.W.kat_yes (PySem.W.kat_cons (SeqAt.EqAt.same (A := A) (s := s) u prog w _ _ ?_))
      refine PySem.W.kat_yes (PySem.W.kat_nil ?_)
      rw [e] at hQ
      simpa using hQ
    · exact PySem.W.kat_no (oneLt_int hQ)
end
section
variable {X : Cx}
/-- d.items(), a view -/
def rItK : V → List V → Hp → VK → Prop := fun x xs H Q => ∃ (a : Addr) (kvs : List (Key × V)), x = .ref a ∧ xs = [] ∧ H a = some (.dK kvs) ∧ ∀ p, H p = none → Q (.ref p) (upd H p (itemsO p a))
theorem mt_itemsK : MtR X "dict.items" rItK := by
  intro pins s σ H x xs v us Q I rx rxs h
  obtain ⟨a, kvs, rfl, rfl, ha, q⟩ := h
  cases rx
  cases rxs
  obtain ⟨z, hd, vs, rel, o, es, ep, ho, hx, hdat, _⟩ := dk_of I.hok ha
  refine DT.callItems (es := es) (ep := ep) hd ⟨o, ho, hx, hdat⟩ ?_
  exact ⟨.ref s.heap.objs.size, _, I.laid (t' := s.toks) (fun b u e => Heap.get?_push_of_some _ e) (Nat.le_refl _) (itemsO_ok (Heap.get?_push_size _ rfl)), rfl, q _ (I.hok.fresh (Nat.le_refl _))⟩
abbrev entN (e : Int × V) : Key × V := (Sum.inl e.1, e.2)
def rSortN : List V → Hp → VK → Prop := fun vs H Q => ∃ (p a : Addr) (ks : List (Int × V)), vs = [.ref p] ∧ H p = some (itemsO p a) ∧ H a = some (.dK (ks.map entN)) ∧ ks.length < 64 ∧ (ks.map (·.1)).Nodup ∧
  ∀ (H' : Hp) (l : Addr) (ps : List (Addr × Int × V)), (∀ b o, H b = some o → H' b = some o) → (ps.map (·.2)).Perm ks → (ps.map (·.2)).Pairwise (fun e f => e.1 ≤ f.1) → H l = none → H' l = some (.lst (ps.map fun z => V.ref z.1)) →
    (∀ z ∈ ps, H z.1 = none ∧ z.1 ≠ l ∧ H' z.1 = some (.tup [.int z.2.1, z.2.2])) → Q (.ref l) H'
theorem pairs_at {prog : Program} {w : World} {es : List DictEntry} {vs : List (Key × Value)} (h : Pairs (mixKind prog w) es vs) : ∀ (j : Nat) (e : DictEntry), es[j]? = some e → ∃ kv, vs[j]? = some kv ∧ keyIs kv.1 e.key = true ∧ e.val = kv.2 := by
  induction h with
  | nil => intro j e h; simp at h
  | cons a b _ ih =>
    intro j e h
    cases j with
    | zero => simp at h; subst h; exact ⟨_, rfl, a, b⟩
    | succ j => exact ih j e (by simpa using h)
theorem pairs_len {prog : Program} {w : World} {es : List DictEntry} {vs : List (Key × Value)} (h : Pairs (mixKind prog w) es vs) : es.length = vs.length := by
  induction h with
  | nil => rfl
  | cons _ _ _ ih => exact congrArg (· + 1) ih
theorem cr_sortN (hc : X.calm = true) : CallR X (.builtin "sorted") rSortN := by
  intro pins s σ H xs us Q I r h
  obtain ⟨p, a, ks, rfl, hp, ha, h64, ndk, q⟩ := h
  obtain rfl := Vals.ref1 r
  have view : s.heap.IsItemsView p a := (show ObjOk X.prog X.w H s.heap p (itemsO p a) from I.hok p _ hp).1
  obtain ⟨z, hd, vs, rel, o, es, ep, ho, hx, hdat, _, hps, _⟩ := dk_of I.hok ha
  have l1 : (ks.map entN).length = vs.length := Paired.length rel
  rw [List.length_map] at l1
  have l2 : es.size = vs.length := by rw [← pairs_len hps]; simp
  have hh : X.A.handled = none := I.ok.hd hc
  refine DT.sortedI (es := es) (ep := ep) hh view ⟨o, ho, hx, hdat⟩ (by rw [sizeLine_eq]; omega) fun h' tk as hk hlt hl hG => ?_
  have lak : as.length = ks.length := by omega
  have nd : as.Nodup := List.Pairwise.imp (fun h => Nat.ne_of_lt h) hG.rise
  -- the pairs
  have pr : ∀ (j : Nat) (b : Addr), as[j]? = some b → ∃ (e : Int × V) (t : Tok) (u : Value), ks[j]? = some e ∧ RelV e.2 u ∧ h'.get? b = some { cls := .type "tuple", data := .seq #[Value.int e.1 t, u] } := by
    intro j b hj
    obtain ⟨en, he, hg⟩ := hG.pairs j b hj
    obtain ⟨kv, hkv, hkey, hval⟩ := pairs_at hps j en (by rw [← he, Array.getElem?_toList])
    obtain ⟨e0, he0, r1, r2⟩ := pget rel hkv
    rw [List.getElem?_map] at he0
    cases hkj : ks[j]? with
    | none => rw [hkj] at he0; cases he0
    | some e =>
      rw [hkj] at he0
      cases he0
      rw [← r1] at hkey
      rcases keyIs_shape hkey with ⟨i, t, e1, e2⟩ | ⟨y, t, e1, _⟩
      · cases e1
        exact ⟨e, t, en.val, rfl, by rw [hval]; exact r2, by rw [hg, e2]⟩
      · cases e1
  have hob : (h'.push { cls := .type "list", data := .seq (as.map Value.ref).toArray }).get? h'.objs.size = some (seqObj "list" (as.map Value.ref).toArray 0) := Heap.get?_push_size _ rfl
  have kb : ∀ b o, s.heap.get? b = some o → (h'.push { cls := .type "list", data := .seq (as.map Value.ref).toArray }).get? b = some o := fun b o e => Heap.get?_push_of_some _ (hk b o e)
  have ne0 : ∀ b o, h'.get? b = some o → b ≠ h'.objs.size := fun b o e => Nat.ne_of_lt (Heap.lt_size e)
  generalize hh2 : h'.push { cls := .type "list", data := .seq (as.map Value.ref).toArray } = h2 at hob kb ⊢
  have ka : ∀ b o, h'.get? b = some o → h2.get? b = some o := fun b o e => by rw [← hh2]; exact Heap.get?_push_of_some _ e
  generalize hmid : TS.midHeap h2 h'.objs.size (as.map Value.ref) = mid
  have pin : ∀ (j : Nat) (b : Addr) (e : Int × V), as[j]? = some b → ks[j]? = some e → PairN mid (.ref b) e.1 := by
    intro j b e hj he
    obtain ⟨e', t, u, he', _, hg⟩ := pr j b hj
    rw [he] at he'; cases he'
    subst hmid
    exact ⟨b, t, u, rfl, ⟨_, TS.midHeap_old (ne0 _ _ hg) (ka _ _ hg), rfl, 0, rfl⟩⟩
  have at_ : ∀ v ∈ as.map Value.ref, ∃ (j : Nat) (b : Addr) (e : Int × V), v = .ref b ∧ as[j]? = some b ∧ ks[j]? = some e := by
    intro v hv'
    obtain ⟨b, hb, rfl⟩ := List.mem_map.mp hv'
    obtain ⟨j, hj⟩ := List.mem_iff_getElem?.mp hb
    obtain ⟨e, _, _, he, _⟩ := pr j b hj
    exact ⟨j, b, e, rfl, hj, he⟩
  refine wpAny_call_entry PyProof.Rows.slot_list_sort ⟨_, hob, rfl⟩ PyProof.Rows.entry_list_sort
    (SK.plain_sort (s := { s with heap := h2, toks := tk }) (r := fun v => keyN mid v) hob (by rw [List.length_map]; omega) (fun h2' Qk hQk => ?_) fun ps out o1 o2 o3 => ⟨.none, rfl, ?_⟩) (PyProof.Rows.args_list_sort _)
  · have hQk : ∀ κ, TS.Cmp X.prog X.w X.A.in1.in1 { s with heap := TS.midHeap h2 h'.objs.size (as.map Value.ref), toks := tk } κ (pairsOf (as.map Value.ref)) (fun v => keyN mid v) → Qk κ { s with heap := TS.midHeap h2 h'.objs.size (as.map Value.ref), toks := tk } := hQk
    show wpAny _ _ _ Qk _ { s with heap := TS.midHeap h2 h'.objs.size (as.map Value.ref), toks := tk }
    rw [hmid] at hQk ⊢
    refine kindN (s := { s with heap := mid, toks := tk }) h2' (fun v hv' => ?_) (fun v hv' u hu' e => ?_) Qk hQk
    · obtain ⟨j, b, e, rfl, hj, he⟩ := at_ v hv'
      exact ⟨_, pin j b e hj he⟩
    · obtain ⟨j, b, e1, rfl, hj, he⟩ := at_ v hv'
      obtain ⟨j2, b2, e2, rfl, hj2, he2⟩ := at_ u hu'
      have e : keyN mid (.ref b) = keyN mid (.ref b2) := e
      rw [(pin j b e1 hj he).key, (pin j2 b2 e2 hj2 he2).key] at e
      have i1 : (ks.map (·.1))[j]? = some e1.1 := by rw [List.getElem?_map, he]; rfl
      have i2 : (ks.map (·.1))[j2]? = some e1.1 := by rw [List.getElem?_map, he2, e]; rfl
      have ej : j = j2 := (List.getElem?_inj (List.getElem?_eq_some_iff.mp i1).1 ndk).mp (i1.trans i2.symm)
      subst ej
      rw [hj] at hj2; cases hj2; rfl
  · show EP X pins σ Q (.ref h'.objs.size) { s with heap := sortedHeap h2 h'.objs.size (as.map Value.ref) out, toks := tk }
    obtain ⟨zs, pz, ez⟩ := perm_lift (fun z : Addr × Int × V => (Value.ref z.1, Value.ref z.1)) o2 (as.zip ks) (zip_self Value.ref as ks lak)
    have idx : ∀ z ∈ zs, ∃ j : Nat, as[j]? = some z.1 ∧ ks[j]? = some z.2 := by
      intro z' hz'
      obtain ⟨j, hj⟩ := List.mem_iff_getElem?.mp (pz.mem_iff.mp hz')
      exact ⟨j, List.getElem?_zip_eq_some.mp hj⟩
    have hout : out.toList = zs.map fun z => Value.ref z.1 := by
      rw [o1, ← ez, List.map_map]; rfl
    have hperm : (zs.map (·.2)).Perm ks := by
      have e := pz.map (·.2)
      rwa [List.map_snd_zip (by rw [lak]; exact Nat.le_refl _)] at e
    have hsort : (zs.map (·.2)).Pairwise (fun e f => e.1 ≤ f.1) := by
      rw [← ez, List.pairwise_map] at o3
      rw [List.pairwise_map]
      refine List.Pairwise.imp_of_mem (fun {x y} hx hy h => ?_) o3
      obtain ⟨j, j1, j2⟩ := idx x hx
      obtain ⟨i, i1, i2⟩ := idx y hy
      have h : keyN mid (.ref x.1) ≤ keyN mid (.ref y.1) := h
      rwa [(pin j _ _ j1 j2).key, (pin i _ _ i1 i2).key] at h
    have kF : ∀ b o, b ≠ h'.objs.size → h2.get? b = some o → (sortedHeap h2 h'.objs.size (as.map Value.ref) out).get? b = some o := fun b o hb e => (PyProof.Rows.sortedHeap_old hb (Heap.lt_size e)).trans e
    have kS : ∀ b o, s.heap.get? b = some o → (sortedHeap h2 h'.objs.size (as.map Value.ref) out).get? b = some o := fun b o e => kF b o (ne0 _ _ (hk b o e)) (kb b o e)
    obtain ⟨eF, heF⟩ := PyProof.Rows.sortedHeap_at (vs := as.map Value.ref) (out := out) hob
    have I1 : Inv X pins σ H { s with heap := sortedHeap h2 h'.objs.size (as.map Value.ref) out, toks := tk } := I.kept (t' := tk) kS
    have hn0 : H h'.objs.size = none := I.hok.fresh (Nat.le_of_lt hlt)
    have hlen : (zs.map fun z => V.ref z.1).length ≤ sizeLine := by
      have e := hperm.length_eq
      rw [List.length_map] at e
      rw [List.length_map, sizeLine_eq]; omega
    have rv : Vals (zs.map fun z => V.ref z.1) out.toList := by
      rw [hout]
      exact vals_maps (fun z : Addr × Int × V => V.ref z.1) (fun z => Value.ref z.1) zs fun _ _ => rfl
    have I2 := I1.take (h' := sortedHeap h2 h'.objs.size (as.map Value.ref) out) (t' := tk) (o := .lst (zs.map fun z => V.ref z.1)) (fun b ob _ e => e) (I.fpOk (Nat.le_of_lt hlt) hn0) ⟨hlen, out.toList, eF, rv, heF⟩
    have fresh : ∀ b ∈ as, H b = none := fun b hb => I.hok.fresh (Nat.le_of_lt (hG.above b hb))
    obtain ⟨H2, I3, g, qt⟩ := takeT (P := fun b vs => ∃ (j : Nat) (e : Int × V), as[j]? = some b ∧ ks[j]? = some e ∧ vs = [.int e.1, e.2]) I as _ I2 nd fun b hb => by
      obtain ⟨j, hj⟩ := List.mem_iff_getElem?.mp hb
      obtain ⟨e, t, u, he, ru, hg⟩ := pr j b hj
      refine ⟨Nat.le_of_lt (hG.above b hb), ?_, [.int e.1, e.2], ⟨j, e, hj, he, rfl⟩, fun H3 => ⟨(by rw [sizeLine_eq]; show 2 ≤ 16777216; omega), [Value.int e.1 t, u], .cons ⟨t, rfl⟩ (.cons ru .nil), ⟨_, kF _ _ (ne0 _ _ hg) (ka _ _ hg), rfl, 0, rfl⟩⟩⟩
      rw [upd_ne (ne0 _ _ hg)]
      exact fresh b hb
    have gr : ∀ b o, H b = some o → H2 b = some o := fun b o e => g b o (by rw [upd_ne (ne_of_none e hn0)]; exact e)
    refine ⟨.ref h'.objs.size, H2, I3, rfl, q H2 h'.objs.size zs gr hperm hsort hn0 (g _ _ upd_same) fun z' hz' => ?_⟩
    obtain ⟨i, i1, i2⟩ := idx z' hz'
    have mem := List.mem_of_getElem? i1
    obtain ⟨vs, ⟨j, e, j1, j2, ev⟩, hH⟩ := qt z'.1 mem
    have eij : i = j := (List.getElem?_inj (List.getElem?_eq_some_iff.mp i1).1 nd).mp (i1.trans j1.symm)
    subst eij
    have ee : e = z'.2 := Option.some.inj (j2.symm.trans i2)
    rw [ev, ee] at hH
    obtain ⟨_, _, _, _, _, hg⟩ := pr i z'.1 i1
    exact ⟨fresh _ mem, ne0 _ _ hg, hH⟩
end
end YS
/-! Y, part 9: repr, isinstance, own ==, more built-ins. -/
namespace Y
open PySem PySem.Spec PyProof.Rows L2

/-! ### repr -/
mutual
def pD : D → PyData
  | .non => .none
  | .bl b => .bool b
  | .int i => .int i
  | .str s => .str s
  | .tup xs => .tuple (pDs xs)
  | .ktup xs => .tuple (pDs xs)
  | .lst xs => .list (pDs xs)
  | .klst xs => .list (pDs xs)
  | _ => .none
def pDs : List D → List PyData
  | [] => []
  | x :: xs => pD x :: pDs xs
end
mutual
def costD : D → Nat
  | .tup xs => costDs xs + 4
  | .ktup xs => costDs xs + 4
  | .lst xs => costDs xs + 4
  | .klst xs => costDs xs + 4
  | _ => 2000
def costDs : List D → Nat
  | [] => 0
  | x :: xs => costD x + 2 + costDs xs
end
mutual
def depD : D → Nat
  | .tup xs => depDs xs + 1
  | .ktup xs => depDs xs + 1
  | .lst xs => depDs xs + 1
  | .klst xs => depDs xs + 1
  | _ => 0
def depDs : List D → Nat
  | [] => 0
  | x :: xs => max (depD x) (depDs xs)
end
mutual
/-- what may be told as text -/
def lfD : D → Prop
  | .non => True
  | .bl _ => True
  | .int i => i.natAbs.log2 < 1920
  | .str s => (reprText s).length ≤ 2000
  | .tup xs => lfDs xs
  | .ktup xs => lfDs xs
  | .lst xs => lfDs xs
  | .klst xs => lfDs xs
  | _ => False
def lfDs : List D → Prop
  | [] => True
  | x :: xs => lfD x ∧ lfDs xs
end
/-- what repr tells -/
def shD (d : D) : Str := (pD d).shown
mutual
theorem lf_show : ∀ d : D, lfD d → (pD d).showable = true
  | .non, _ => rfl
  | .bl _, _ => rfl
  | .int i, h => decide_eq_true h
  | .str s, _ => rfl
  | .tup xs, h => by unfold pD PyData.showable; exact lfs_show xs h
  | .ktup xs, h => by unfold pD PyData.showable; exact lfs_show xs h
  | .lst xs, h => by unfold pD PyData.showable; exact lfs_show xs h
  | .klst xs, h => by unfold pD PyData.showable; exact lfs_show xs h
  | .dk _, h => h.elim
  | .dt _, h => h.elim
  | .ins _ _, h => h.elim
  | .ref _, h => h.elim
theorem lfs_show : ∀ ds : List D, lfDs ds → PyData.showableAll (pDs ds) = true
  | [], _ => rfl
  | d :: ds, h => by unfold pDs PyData.showableAll; rw [lf_show d h.1, lfs_show ds h.2]; rfl
end
mutual
theorem nodict : ∀ d : D, (pD d).hasDict = false
  | .non => rfl
  | .bl _ => rfl
  | .int i => rfl
  | .str s => rfl
  | .tup xs => by unfold pD PyData.hasDict; exact nodicts xs
  | .ktup xs => by unfold pD PyData.hasDict; exact nodicts xs
  | .lst xs => by unfold pD PyData.hasDict; exact nodicts xs
  | .klst xs => by unfold pD PyData.hasDict; exact nodicts xs
  | .dk _ => rfl
  | .dt _ => rfl
  | .ins _ _ => rfl
  | .ref _ => rfl
theorem nodicts : ∀ ds : List D, PyData.hasDictAll (pDs ds) = false
  | [] => rfl
  | d :: ds => by unfold pDs PyData.hasDictAll; rw [nodict d, nodicts ds]; rfl
end
mutual
theorem dep_le : ∀ d : D, (pD d).depth = depD d
  | .non => rfl
  | .bl _ => rfl
  | .int i => rfl
  | .str s => rfl
  | .tup xs => by unfold pD PyData.depth depD; rw [deps_le xs]
  | .ktup xs => by unfold pD PyData.depth depD; rw [deps_le xs]
  | .lst xs => by unfold pD PyData.depth depD; rw [deps_le xs]
  | .klst xs => by unfold pD PyData.depth depD; rw [deps_le xs]
  | .dk _ => rfl
  | .dt _ => rfl
  | .ins _ _ => rfl
  | .ref _ => rfl
theorem deps_le : ∀ ds : List D, PyData.depthAll (pDs ds) = depDs ds
  | [] => rfl
  | d :: ds => by unfold pDs PyData.depthAll depDs; rw [dep_le d, deps_le ds]
end
theorem list_text (ts : List Str) : (listText ts).length ≤ piled ts + 2 := by
  unfold listText
  rw [strLen_append]
  have e1 : ((("]" : String) : Str)).length = 1 := rfl
  rw [e1]
  cases ts with
  | nil => decide +kernel
  | cons t r =>
    show (textFrom 1 _ r).length + 1 ≤ _
    rw [textFrom_length_pos r 1 _ (by omega), strLen_append, strLen_append, piled_cons]
    have e2 : ((("[" : String) : Str)).length = 1 := rfl
    have e3 : (((if 0 > 0 then ", " else "" : String) : Str)).length = 0 := rfl
    rw [e2, e3]
    omega
mutual
theorem cost_le : ∀ d : D, lfD d → (pD d).shown.length ≤ costD d
  | .non, _ => by decide +kernel
  | .bl b, _ => by cases b <;> decide +kernel
  | .int i, h => Nat.le_trans (int_text_len_1921 h) (by show 1921 ≤ 2000; omega)
  | .str s, h => h
  | .tup xs, h => by
    unfold pD PyData.shown costD
    have a := fmt_text (PyData.shownAll (pDs xs))
    have b := costs_le xs h
    omega
  | .ktup xs, h => by
    unfold pD PyData.shown costD
    have a := fmt_text (PyData.shownAll (pDs xs))
    have b := costs_le xs h
    omega
  | .lst xs, h => by
    unfold pD PyData.shown costD
    have a := list_text (PyData.shownAll (pDs xs))
    have b := costs_le xs h
    omega
  | .klst xs, h => by
    unfold pD PyData.shown costD
    have a := list_text (PyData.shownAll (pDs xs))
    have b := costs_le xs h
    omega
  | .dk _, h => h.elim
  | .dt _, h => h.elim
  | .ins _ _, h => h.elim
  | .ref _, h => h.elim
theorem costs_le : ∀ ds : List D, lfDs ds → piled (PyData.shownAll (pDs ds)) ≤ costDs ds
  | [], _ => Nat.le_refl _
  | d :: ds, h => by
    unfold pDs PyData.shownAll costDs
    rw [piled_cons]
    have a := cost_le d h.1
    have b := costs_le ds h.2
    omega
end
section
variable {X : Cx} {pins : List (Addr × Obj)} {σ : L2.St} {H : Hp} {s : Shared} {I : Hp}
mutual
theorem reads_D (Iv : Inv X pins σ H s) (ex : Ex I H) : ∀ (d : D) (v : V) (u : Value), R X.K I v d → lfD d → RelV v u → ∃ as, Reads s.heap u (pD d) as
  | .non, v, u, r, _, q => by cases r; cases q; exact ⟨_, .none⟩
  | .bl b, v, u, r, _, q => by cases r; cases q; exact ⟨_, .bool b⟩
  | .int i, v, u, r, _, q => by cases r; obtain ⟨t, rfl⟩ := q; exact ⟨_, .int i t⟩
  | .str x, v, u, r, _, q => by cases r; obtain ⟨t, rfl⟩ := q; exact ⟨_, .str x t⟩
  | .tup xs, v, u, r, h, q => by
    obtain ⟨a, ys, rfl, hh, ra⟩ := r.tup_inv
    obtain ⟨its, rv, ⟨o, ho, hc, n, hd⟩, _⟩ := Iv.tuple (SqT.of (ex _ _ hh))
    obtain ⟨as, rr⟩ := reads_Ds Iv ex xs ys its ra h rv
    cases q
    exact ⟨_, .tuple ho hc hd rr⟩
  | .ktup xs, v, u, r, h, q => by
    obtain ⟨a, ys, rfl, hh, ra⟩ := r.ktup_inv
    obtain ⟨its, rv, ⟨o, ho, hc, n, hd⟩, _⟩ := Iv.tuple (ex.t hh)
    obtain ⟨as, rr⟩ := reads_Ds Iv ex xs ys its ra h rv
    cases q
    exact ⟨_, .tuple ho hc hd rr⟩
  | .lst xs, v, u, r, h, q => by
    obtain ⟨a, ys, rfl, hh, ra⟩ := r.lst_inv
    obtain ⟨its, rv, ⟨o, n, ho, hc, _, hd⟩, _⟩ := Iv.list (SqL.of (ex _ _ hh))
    obtain ⟨as, rr⟩ := reads_Ds Iv ex xs ys its ra h rv
    cases q
    exact ⟨_, .list ho hc hd rr⟩
  | .klst xs, v, u, r, h, q => by
    obtain ⟨a, ys, rfl, hh, ra⟩ := r.klst_inv
    obtain ⟨its, rv, ⟨o, n, ho, hc, _, hd⟩, _⟩ := Iv.list (ex.l hh)
    obtain ⟨as, rr⟩ := reads_Ds Iv ex xs ys its ra h rv
    cases q
    exact ⟨_, .list ho hc hd rr⟩
  | .dk _, _, _, _, h, _ => h.elim
  | .dt _, _, _, _, h, _ => h.elim
  | .ins _ _, _, _, _, h, _ => h.elim
  | .ref _, _, _, _, h, _ => h.elim
theorem reads_Ds (Iv : Inv X pins σ H s) (ex : Ex I H) : ∀ (ds : List D) (vs : List V) (us : List Value), RA X.K I vs ds → lfDs ds → Vals vs us → ∃ as, ReadsAll s.heap us (pDs ds) as
  | [], _, _, r, _, q => by cases r; cases q; exact ⟨_, .nil⟩
  | d :: ds, _, _, r, h, q => by
    cases r with
    | cons r1 r2 =>
      cases q with
      | cons q1 q2 =>
        obtain ⟨as, a⟩ := reads_D Iv ex d _ _ r1 h.1 q1
        obtain ⟨bs, b⟩ := reads_Ds Iv ex ds _ _ r2 h.2 q2
        exact ⟨_, .cons a b⟩
end
end
section
variable {τ : Type} {J : τ → Hp → Prop} {X : Cx} {env : EnvD} {N : NN} {t : τ} {pos : Pos} {P : D → NN → τ → Prop} {E : EndD τ}
theorem cd_repr (hu : X.A.units + 64 < cLine) (hg : X.A.guards = some []) {d : D} (h1 : lfD d) (h2 : depD d ≤ 60) (h3 : costD d ≤ 16000000) (hr : ∃ xs, d = .tup xs ∨ d = .lst xs) (h : P (.str (shD d)) N t) : ClD J X (.builtin "repr") [d] N t P := fun I H vs Q W ra C pins s σ us Iv rv => by
  obtain ⟨v, rfl, r⟩ := ra.one_inv
  obtain ⟨u, rfl, ru⟩ := vals1 rv
  obtain ⟨as, rd⟩ := reads_D Iv W.ex d v u r h1 ru
  have ea : ∃ a, u = .ref a := by
    obtain ⟨xs, rfl | rfl⟩ := hr
    · obtain ⟨a, _, rfl, _⟩ := r.tup_inv; exact ⟨a, ru⟩
    · obtain ⟨a, _, rfl, _⟩ := r.lst_inv; exact ⟨a, ru⟩
  obtain ⟨a, rfl⟩ := ea
  have hd := dep_le d
  refine repr_of_reads' rd (lf_show d h1) (fun q => by rw [nodict] at q; cases q) hg (by omega) (fun _ _ e => e) (fun h' u tk k => ?_) ?_
  · exact ⟨.str (shD d), H, Iv.kept k, ⟨_, rfl⟩, C.now W (.str _) h⟩
  · have := cost_le d h1
    rw [sizeLine_eq]; omega

/-! ### dicts, lists, ranges -/
theorem md_clearD {p : Addr} {xs : List (Key × D)} (hp : N p = some (.dk xs)) (h : P .non (put N p (.dk [])) t) : MtD J X "dict.clear" (.ref p) [] N t P := md_r mtd_clear fun I H v vs Q W r ra C => by
  cases ra
  obtain ⟨hi, ys, hH, q⟩ := W.own p _ hp
  exact ⟨p, ys, r.ref_inv, rfl, hH, C _ _ I _ t _ (Ex.refl I) (W.mut (d' := .dk []) hp ⟨_, upd_same, rfl, .nil⟩) .non h⟩
/-- dict(d): a copy, owned -/
theorem cd_dictD {x : D} {kvs : List (Key × D)} (hx : DV N x kvs) (h : ∀ p, N p = none → P (.ref p) (put N p (.dk kvs)) t) : ClD J X (.type "dict") [x] N t P := cd_r call_dictD fun I H vs Q W ra C => by
  obtain ⟨v, rfl, r⟩ := ra.one_inv
  obtain ⟨a, ys, rfl, rd, rp⟩ := hx.rd W r
  exact ⟨a, ys, rfl, rd, fun p hp => C _ _ I _ t _ (Ex.refl I) (W.newN (d := .dk kvs) hp ⟨ys, upd_same, rp.1, rp.2⟩) (.ref p) (h p (W.nfresh hp))⟩
theorem pairs_of {K : PySem.W.Frag} {I H : Hp} (ex : Ex I H) : ∀ {kvs : List (Key × D)} {vs : List V}, RA K I vs (kvs.map fun kv => .tup [keyD kv.1, kv.2]) →
    ∃ (ps : List Addr) (ms : List (Key × V)), vs = ps.map V.ref ∧ RP K I ms kvs ∧ Paired (fun p kv => SqT K H p [kV kv.1, kv.2]) ps ms
  | [], vs, h => by
    have h : RA K I vs [] := h
    cases h
    exact ⟨[], [], rfl, .nil, .nil⟩
  | kv :: kvs, vs, h => by
    have h : RA K I vs (.tup [keyD kv.1, kv.2] :: kvs.map fun kv => .tup [keyD kv.1, kv.2]) := h
    cases h with
    | cons a b =>
      obtain ⟨ps, ms, rfl, rp, pp⟩ := pairs_of ex b
      obtain ⟨q, ys, rfl, hq, rq⟩ := a.tup_inv
      obtain ⟨v1, v2, rfl, r1, r2⟩ := rq.two_inv
      rw [keyD_inv r1] at hq
      exact ⟨q :: ps, (kv.1, v2) :: ms, rfl, rp.cons r2, .cons (SqT.of (ex _ _ hq)) pp⟩
/-- dict([(k, v), ..]), owned -/
theorem cd_dictP (hc : X.calm = true) {x : D} {kvs : List (Key × D)} (hx : LV N x (kvs.map fun kv => .tup [keyD kv.1, kv.2])) (h : ∀ p, N p = none → P (.ref p) (put N p (.dk (mergeP [] kvs))) t) : ClD J X (.type "dict") [x] N t P := cd_r (call_dictP hc) fun I H vs Q W ra C => by
  obtain ⟨v, rfl, r⟩ := ra.one_inv
  obtain ⟨a, ys, rfl, sq, rr⟩ := hx.sq W r
  obtain ⟨ps, ms, rfl, rp, pp⟩ := pairs_of W.ex rr
  have rm := RP.merge rp (RP.nil (K := X.K) (I := I))
  exact ⟨a, ps, ms, rfl, sq, pp, fun p hp => C _ _ I _ t _ (Ex.refl I) (W.newN (d := .dk (mergeP [] kvs)) hp ⟨_, upd_same, rm.1, rm.2⟩) (.ref p) (h p (W.nfresh hp))⟩
theorem keys_of_rp {K : PySem.W.Frag} {I : Hp} {ys : List (Key × V)} {kvs : List (Key × D)} {ks : List Int} (rp : RP K I ys kvs) (h : kvs.map (·.1) = ks.map Sum.inl) : ys.map (·.1) = ks.map Sum.inl := rp.1.trans h
/-- sorted(d), the keys ints -/
theorem cd_sortDI (hc : X.calm = true) {x : D} {kvs : List (Key × D)} {ks : List Int} (hx : DV N x kvs) (hk : kvs.map (·.1) = ks.map Sum.inl) (h64 : ks.length < 64) (h : ∀ ys : List Int, ys.Perm ks → ys.Pairwise (· ≤ ·) → P (.lst (ys.map D.int)) N t) :
    ClD J X (.builtin "sorted") [x] N t P := cd_r (call_sortedDI hc) fun I H vs Q W ra C => by
  obtain ⟨v, rfl, r⟩ := ra.one_inv
  obtain ⟨a, ys, rfl, rd, rp⟩ := hx.rd W r
  refine ⟨a, ys, ks, rfl, rd, keys_of_rp rp hk, h64, fun zs p h1 h2 hp => ?_⟩
  have en := Ex.new (o := .lst (zs.map V.int)) (W.ifresh hp)
  exact C _ _ _ N t _ en (W.newI hp) (.lst upd_same (RA.ints zs)) (h zs h1 h2)
theorem cd_max2 (hc : X.calm = true) {i j : Int} (h : P (.int (if j > i then j else i)) N t) : ClD J X (.builtin "max") [.int i, .int j] N t P := cd_r (call_max2 hc) fun I H vs Q W ra C => by
  obtain ⟨v, u, rfl, r1, r2⟩ := ra.two_inv
  exact ⟨i, j, by rw [r1.int_inv, r2.int_inv], C.now W (.int _) h⟩
theorem cd_min2 (hc : X.calm = true) {i j : Int} (h : P (.int (if j < i then j else i)) N t) : ClD J X (.builtin "min") [.int i, .int j] N t P := cd_r (call_min2 hc) fun I H vs Q W ra C => by
  obtain ⟨v, u, rfl, r1, r2⟩ := ra.two_inv
  exact ⟨i, j, by rw [r1.int_inv, r2.int_inv], C.now W (.int _) h⟩
/-- xs[::-1] -/
theorem ev_revL {e : Expr} {k : Nat} {p1 p2 p3 : Pos} (h : EvE J X e env N t fun x N1 t1 => ∃ xs, LV N1 x xs ∧ P (.lst xs.reverse) N1 t1) : EvE J X (.Subscript e (.Slice none none (some (.UnaryOp .USub (.Constant (.int 1) k p1) p2)) p3) pos) env N t P := fun σ H I Q W S C =>
  PE.w (pe_revL pe_w) (h σ H I _ W S fun v x I1 N1 t1 H1 e1 W1 r ⟨xs, hx, q⟩ => by
    obtain ⟨a, ys, rfl, sq, ra⟩ := hx.sq W1 r
    refine ⟨a, ys, rfl, sq, fun p hp => ?_⟩
    have en := Ex.new (o := .lst ys.reverse) (W1.ifresh hp)
    exact C _ _ _ N1 t1 _ (e1.trans en) (W1.newI hp) (.lst upd_same (ra.reverse.mono en)) q)
theorem rg_ints (n : Int) : rgV 0 n = ((List.range n.toNat).map fun (i : Nat) => (i : Int)).map V.int := by
  unfold rgV
  rw [List.map_map]
  simp only [Int.sub_zero, Int.zero_add]
  rfl
/-- list(range(n)) -/
theorem ev_listRg {e : Expr} {p p2 pos2 : Pos} (hc : X.calm = true) (hm : X.mg "list" = none) (hm2 : X.mg "range" = none) (h : EvE J X e env N t fun d N1 t1 => ∃ n : Int, d = .int n ∧ 0 ≤ n ∧ n ≤ 16777216 ∧ P (.lst ((List.range n.toNat).map fun (i : Nat) => D.int (i : Int))) N1 t1)
    (hg : Gl X "list" := by rfl) (hg2 : Gl X "range" := by rfl) (na : starEach [e] X.env = (false, eval e X.env) :: starEach [] X.env := by rfl) (na2 : starEach [.Call (.Name "range" p2) [e] [] pos2] X.env = (false, eval (.Call (.Name "range" p2) [e] [] pos2) X.env) :: starEach [] X.env := by rfl) :
    EvE J X (.Call (.Name "list" p) [.Call (.Name "range" p2) [e] [] pos2] [] pos) env N t P := fun σ H I Q W S C =>
  PE.w (pe_listRg hc hg hm (prg_1 hg2 hm2 pe_w na) na2) (h σ H I _ W S fun v d I1 N1 t1 H1 e1 W1 r ⟨n, ed, h0, h1, q⟩ => by
    subst ed
    refine ⟨n, r.int_inv, .of_le (by omega) (by omega) (by omega) (by omega), fun p hp => ?_⟩
    have en := Ex.new (o := .lst (rgV 0 n)) (W1.ifresh hp)
    refine C _ _ _ N1 t1 _ (e1.trans en) (W1.newI hp) (.lst upd_same ?_) q
    rw [rg_ints]
    have z := RA.ints (K := X.K) (I := upd I1 p (.lst (((List.range n.toNat).map fun (i : Nat) => (i : Int)).map V.int))) ((List.range n.toNat).map fun (i : Nat) => (i : Int))
    rw [List.map_map, List.map_map] at z
    rw [List.map_map]
    exact z)
/-- tuples told become known -/
theorem Wd.more {I H H' : Hp} (W : Wd J X.K I N t H) (e : Ex H H') (as : List Addr) (f : ∀ a ∈ as, H a = none ∧ ∃ o, H' a = some o) : ∃ I', Ex I I' ∧ Wd J X.K I' N t H' ∧ ∀ a ∈ as, I' a = H' a := by
  have W' := W.wide e
  refine ⟨fun a => if a ∈ as then H' a else I a, fun a o h => ?_, ⟨fun a o h => ?_, fun p d h => ?_, ?_⟩, fun a ha => if_pos ha⟩
  · have : a ∉ as := fun z => by rw [W.ifresh (f a z).1] at h; cases h
    show (if a ∈ as then H' a else I a) = some o
    rw [if_neg this]; exact h
  · by_cases z : a ∈ as
    · have h : (if a ∈ as then H' a else I a) = some o := h
      rw [if_pos z] at h; exact h
    · have h : (if a ∈ as then H' a else I a) = some o := h
      rw [if_neg z] at h; exact W'.ex a o h
  · obtain ⟨hi, hw⟩ := W'.own p d h
    have : p ∉ as := fun z => nn_ne h (W.nfresh (f p z).1) rfl
    refine ⟨by show (if p ∈ as then H' p else I p) = none; rw [if_neg this]; exact hi, hw.mono (fun a o q => ?_) rfl⟩
    have : a ∉ as := fun z => by rw [W.ifresh (f a z).1] at q; cases q
    show (if a ∈ as then H' a else I a) = some o
    rw [if_neg this]; exact q
  · obtain ⟨S, j, hs⟩ := W.st
    refine ⟨S, j, fun a o q => ?_⟩
    obtain ⟨x, y, z⟩ := hs a o q
    have : a ∉ as := fun z => by rw [(f a z).1] at x; cases x
    exact ⟨e _ _ x, by show (if a ∈ as then H' a else I a) = none; rw [if_neg this]; exact y, z⟩
/-- list(d.items()), d owned -/
theorem ev_listItems {e : Expr} {p apos cpos : Pos} (hc : X.calm = true) (hm : X.mg "list" = none) (h : EvE J X e env N t fun x N1 t1 => ∃ q kvs, x = .ref q ∧ N1 q = some (.dk kvs) ∧ P (.lst (kvs.map fun kv => .tup [keyD kv.1, kv.2])) N1 t1)
    (hg : Gl X "list" := by rfl) (hbase : attributeBase e "items" X.env (eval e X.env) = eval e X.env := by rfl) (hline : (apos.endLine == cpos.line) = true := by rfl)
    (hs : starEach [.Call (.Attribute e "items" apos) [] [] cpos] X.env = (false, eval (.Call (.Attribute e "items" apos) [] [] cpos) X.env) :: starEach [] X.env := by rfl) :
    EvE J X (.Call (.Name "list" p) [.Call (.Attribute e "items" apos) [] [] cpos] [] pos) env N t P := fun σ H I Q W S C =>
  PE.w (LiI.pe_listItems hc pe_w hg hm boot_list hbase hline hs) (h σ H I _ W S fun v x I1 N1 t1 H1 e1 W1 r ⟨q, kvs, ex, hq, pp⟩ => by
    subst ex
    obtain ⟨hi, ys, hH, ky, rk⟩ := W1.own q _ hq
    refine ⟨q, ys, r.ref_inv, hH, fun H' l ts k1 k2 k3 k4 k5 k6 => ?_⟩
    have at_ : ∀ a ∈ ts, ∃ o, H' a = some o := fun a ha => by
      obtain ⟨j, y, _, _, e3⟩ := LiI.paired_ix k6 ha
      exact ⟨_, e3⟩
    obtain ⟨I2, e2, W2, hI⟩ := W1.more k1 (l :: ts) fun a ha => by
      rcases List.mem_cons.mp ha with rfl | ha
      · exact ⟨k2, _, k5⟩
      · exact ⟨k3 a ha, at_ a ha⟩
    refine C _ _ I2 N1 t1 H' (e1.trans e2) W2 (.lst ((hI l List.mem_cons_self).trans k5) ?_) pp
    have go : ∀ (ts : List Addr) (ys : List (Key × V)) (kvs : List (Key × D)), (∀ a ∈ ts, I2 a = H' a) → Paired (fun (t : Addr) (q : Key × V) => H' t = some (.tup [kV q.1, q.2])) ts ys → RP X.K I2 ys kvs → RA X.K I2 (ts.map V.ref) (kvs.map fun kv => .tup [keyD kv.1, kv.2]) := by
      intro ts ys kvs
      induction kvs generalizing ts ys with
      | nil =>
        intro _ h1 h2
        cases ys with
        | nil => cases h1; exact .nil
        | cons a b => have := h2.1; simp at this
      | cons kv kvs ih =>
        intro hh h1 h2
        obtain ⟨v, r, rfl, a, b⟩ := h2.inv
        cases h1 with
        | cons x y => exact .cons (.tup ((hh _ List.mem_cons_self).trans x) (.cons keyD_R (.cons a .nil))) (ih _ _ (fun a ha => hh a (List.mem_cons_of_mem _ ha)) y b)
    exact go ts ys kvs (fun a ha => hI a (List.mem_cons_of_mem _ ha)) k6 ⟨ky, rk.mono e2⟩)
end
end Y
/-! Y, part 10: isinstance, own ==, sorted items. -/
namespace Y
open PySem PySem.Spec PyProof.Rows L2
/-- what isinstance asks of an own class -/
structure InsC (K : PySem.W.Frag) (C : Addr) : Prop where
  cls : Cls K C
  ha : PySem.W.findIn K (.ref C) "__class__" = some (some (.builtin "object.__class__"))
  hn : PySem.W.specialIn K (.builtin "object.__class__") "__get__" = some (some (.builtin "getset_descriptor.__get__"))
  tk : PySem.W.takesIn K (.builtin "object.__class__") = some true
  hm : PySem.W.mroIn K C (.type "object") = some true
/-- a datum's type -/
inductive TyDx (K : PySem.W.Frag) (N : NN) : D → Value → Prop
  | non : TyDx K N .non (.type "NoneType")
  | bl (b : Bool) : TyDx K N (.bl b) (.type "bool")
  | int (i : Int) : TyDx K N (.int i) (.type "int")
  | str (s : Str) : TyDx K N (.str s) (.type "str")
  | tup (xs : List D) : TyDx K N (.tup xs) (.type "tuple")
  | ktup (xs : List D) : TyDx K N (.ktup xs) (.type "tuple")
  | klst (xs : List D) : TyDx K N (.klst xs) (.type "list")
  | dk (xs : List (Key × D)) : TyDx K N (.dk xs) (.type "dict")
  | lst {x : D} {xs : List D} : LV N x xs → TyDx K N x (.type "list")
  | dkN {p : Addr} {xs : List (Key × D)} : N p = some (.dk xs) → TyDx K N (.ref p) (.type "dict")
  | dtN {p : Addr} {xs : List (List Key × D)} : N p = some (.dt xs) → TyDx K N (.ref p) (.type "dict")
  | ins {x : D} {C : Addr} {fs : List (Str × D)} : IV N x C fs → InsC K C → TyDx K N x (.ref C)
section
variable {τ : Type} {J : τ → Hp → Prop} {X : Cx} {env : EnvD} {N : NN} {t : τ} {pos : Pos} {P : D → NN → τ → Prop} {E : EndD τ}
theorem TyDx.at {I H : Hp} {x : D} {v : V} {ty : Value} (W : Wd J X.K I N t H) (r : R X.K I v x) (h : TyDx X.K N x ty) : TyX X.K H v ty := by
  cases h with
  | non => cases r; exact .base .non
  | bl b => cases r; exact .base (.bl _)
  | int i => cases r; exact .base (.int _)
  | str s => cases r; exact .base (.str _)
  | tup xs => obtain ⟨a, ys, rfl, q, _⟩ := r.tup_inv; exact .base (.tup (W.ex _ _ q))
  | ktup xs =>
    obtain ⟨a, ys, rfl, q, _⟩ := r.ktup_inv
    rcases W.ex.t q with (q | ⟨o, q⟩) | ⟨o, its, n, hk, hc, _⟩
    · exact .base (.tup q)
    · exact .fTuple q
    · exact .kTuple hk hc
  | klst xs =>
    obtain ⟨a, ys, rfl, q, _⟩ := r.klst_inv
    rcases W.ex.l q with (q | ⟨o, q⟩) | ⟨o, its, n, hk, hc, _⟩
    · exact .base (.lst q)
    · exact .base (.frz q)
    · exact .kList hk hc
  | dk xs =>
    obtain ⟨a, ys, rfl, q, _⟩ := r.dk_inv
    rcases W.ex.rd q with q | ⟨o, q⟩
    · exact .base (.dK q)
    · exact .fDict q
  | lst hx => obtain ⟨a, ys, rfl, q, _⟩ := hx.at W r; exact .base (.lst q)
  | dkN hp => obtain ⟨kv, q, _⟩ := (W.own _ _ hp).2; rw [r.ref_inv]; exact .base (.dK q)
  | dtN hp => obtain ⟨kv, q, _⟩ := (W.own _ _ hp).2; rw [r.ref_inv]; exact .base (.dT q)
  | ins hx c => obtain ⟨a, dx, ys, rfl, q, _⟩ := hx.at W r; exact .base (.ins q c.cls c.ha c.hn c.tk c.hm)
/-- a global class -/
theorem ev_cls {x : Str} {C : Addr} (hm : X.mg x = some (.ref C)) (hP : P (.ref C) N t) (hg : Gl X x := by rfl) (hd : (x == ("__debug__" : Str)) = false := by decide) : EvE J X (.Name x pos) env N t P :=
  ev_glob (v := V.ref C) hm rfl (fun _ => .ref C) hP hg hd
/-- isinstance(x, C) -/
theorem cd_isi {x : D} {C : Addr} {ty : Value} {b : Bool} (hx : TyDx X.K N x ty) (hk : PySem.W.kitOne X.K ty (.ref C) = some b) (h : P (.bl b) N t) : ClD J X (.builtin "isinstance") [x, .ref C] N t P := cd_r call_isi fun I H vs Q W ra C' => by
  obtain ⟨v, u, rfl, r1, r2⟩ := ra.two_inv
  exact ⟨v, u, ty, .ref C, b, rfl, by rw [r2.ref_inv]; exact .own C, hx.at W r1, hk, C'.now W (.bl b) h⟩
/-- x == y, x an instance with its own == -/
theorem od_ownEq {k : Nat} {f C : Addr} {fd : FuncData} {ps : List Str} {pre : PreD τ} {fs : List (Str × D)} {x y : D} {tb : Value} (F : FnG X.prog X.w X.K X.mg X.base CX0 k f fd ps (Fsp J X.K pre)) (hr : Rm k X.A)
    (hs : PySem.W.findIn X.K (.ref C) "__eq__" = some (some (.ref f))) (hf : PySem.W.isFn X.K (.ref f) = true) (hb : Binds X.K fd ps []) (hps : ps.length = 2) (hx : IV N x C fs) (hy : TyDx X.K N y tb) (hn : PySem.W.notFirst X.K C tb = true)
    (hp : pre [x, y] N t fun d N' t' => ∃ b, d = .bl b ∧ P (.bl b) N' t') : OpD J X (compareOp .Eq) x y N t P := fun I H v u Q W r1 r2 CC pins s σ va ub Iv rv ru => by
  have ty := hy.at W r2
  obtain ⟨a, dx, ys, rfl, ha, rp⟩ := hx.at W r1
  obtain rfl : va = Value.ref a := rv
  obtain ⟨mA, Jm, _⟩ := ins_get Iv.hok ha
  obtain ⟨od, Jm, _⟩ := Jm.look
  obtain ⟨Pk, Z, pz, _⟩ := kit_of Iv ru ty
  obtain ⟨m, hF⟩ := Iv.fr
  show wpAny (model X.prog X.w) X.A (richCompare .Eq (.ref a) ub) (EP X pins σ Q) X.xe s
  refine PySem.W.cmp_K (op := .Eq) (tb := tb) hr.units0 hF Iv.ok.mod.kin Jm (Z.ty _ _ Iv.kIn pz) hn hs hf ?_
  have sat : Fsp J X.K pre [.ref a, u] H (fun z H' => ∃ b, z = .bl b ∧ Q (.bl b) H') (fun _ _ _ => False) :=
    ⟨I, N, t, [x, y], _, W, .cons r1 (.cons r2 .nil), hp, fun z d I' N' t' H' e' W' r' ⟨b, ed, q⟩ => by
      subst ed
      exact ⟨b, r'.bl_inv, CC _ _ I' N' t' H' e' W' (.bl b) q⟩⟩
  have bd := hb s [.ref a, ub] Iv.kIn (by simpa using hps.symm)
  rw [List.append_nil] at bd
  refine wpAny_mono (fg_run (X := X) F hr pass0 Iv bd (.cons (show RelV (V.ref a) (Value.ref a) from rfl) (.cons ru .nil)) sat) (fun r s' z => ?_) fun _ _ e => e
  obtain ⟨z, H', I', rz, b, ez, q⟩ := z
  subst ez
  obtain rfl : r = Value.bool b := rz
  exact ⟨.bl b, H', I', rfl, q⟩
/-- sorted(d.items()), d owned, the keys ints -/
theorem ev_sortItems {e : Expr} {p apos cpos : Pos} (hc : X.calm = true) (hm : X.mg "sorted" = none) (h : EvE J X e env N t fun x N1 t1 => ∃ q, ∃ ks : List (Int × D), x = .ref q ∧ N1 q = some (.dk (ks.map fun e => (Sum.inl e.1, e.2))) ∧ ks.length < 64 ∧ (ks.map (·.1)).Nodup ∧
      ∀ zs : List (Int × D), zs.Perm ks → zs.Pairwise (fun e f => e.1 ≤ f.1) → P (.lst (zs.map fun e => .tup [.int e.1, e.2])) N1 t1)
    (hg : Gl X "sorted" := by rfl) (hbase : attributeBase e "items" X.env (eval e X.env) = eval e X.env := by rfl) (hline : (apos.endLine == cpos.line) = true := by rfl)
    (hs : starEach [.Call (.Attribute e "items" apos) [] [] cpos] X.env = (false, eval (.Call (.Attribute e "items" apos) [] [] cpos) X.env) :: starEach [] X.env := by rfl) :
    EvE J X (.Call (.Name "sorted" p) [.Call (.Attribute e "items" apos) [] [] cpos] [] pos) env N t P := fun σ H I Q W S C =>
  PE.w (pe_callB (YS.cr_sortN hc) hg hm boot_sorted (pa_cons (pe_bm0 PySem.F.plainAttrs_dict PySem.F.slot_dict_items PySem.F.type_dict_items YS.mt_itemsK pe_w hbase hline) pa_nil hs) (he := hs)) (h σ H I _ W S fun v x I1 N1 t1 H1 e1 W1 r ⟨q, ks, ex, hq, h64, nd, pp⟩ => by
    subst ex
    obtain ⟨hi, ys, hH, ky, rk⟩ := W1.own q _ hq
    have hkd : ∀ (ks : List (Int × D)) (ys : List (Key × V)), RP X.K I1 ys (ks.map fun e => (Sum.inl e.1, e.2)) → ∃ ms : List (Int × V), ys = ms.map YS.entN ∧ ms.map (·.1) = ks.map (·.1) ∧ RA X.K I1 (ms.map (·.2)) (ks.map (·.2)) := by
      intro ks
      induction ks with
      | nil =>
        intro ys h
        cases ys with
        | nil => exact ⟨[], rfl, rfl, .nil⟩
        | cons a b => have := h.1; simp at this
      | cons k ks ih =>
        intro ys h
        obtain ⟨v, r, rfl, a, b⟩ := RP.inv (q := (Sum.inl k.1, k.2)) h
        obtain ⟨ms, rfl, h1, h2⟩ := ih _ b
        exact ⟨(k.1, v) :: ms, rfl, by simp [h1], .cons a h2⟩
    obtain ⟨ms, rfl, hk1, hk2⟩ := hkd ks ys ⟨ky, rk⟩
    obtain rfl := r.ref_inv
    refine ⟨show tyV X.K "dict" (V.ref q) H1 from Or.inr (Or.inr (Or.inl ⟨rfl, Or.inl ⟨_, hH⟩⟩)), q, _, rfl, rfl, hH, fun w hw => ?_⟩
    have hlen : ms.length = ks.length := by have := congrArg List.length hk1; simpa using this
    refine ⟨w, q, ms, rfl, upd_same, ?_, by omega, by rw [hk1]; exact nd, fun H' l ps k1 k2 k3 k4 k5 k6 => ?_⟩
    · rw [upd_ne (fun z => ?_)]
      · exact hH
      · rw [z] at hH; rw [hw] at hH; cases hH
    · -- the order of the data
      have ext : Ex H1 H' := fun a o z => k1 a o (by rw [upd_ne (ne_of_none z hw)]; exact z)
      have tie : ∀ (zs : List (Int × V)), zs.Perm ms → ∃ ws : List (Int × D), ws.Perm ks ∧ ws.map (·.1) = zs.map (·.1) ∧ RA X.K I1 (zs.map (·.2)) (ws.map (·.2)) := by
        intro zs hz
        have gen : ∀ {as bs : List (Int × V)}, as.Perm bs → ∀ ls : List (Int × D), ls.map (·.1) = bs.map (·.1) → RA X.K I1 (bs.map (·.2)) (ls.map (·.2)) → ∃ ws : List (Int × D), ws.Perm ls ∧ ws.map (·.1) = as.map (·.1) ∧ RA X.K I1 (as.map (·.2)) (ws.map (·.2)) := by
          intro as bs hp
          induction hp with
          | nil => intro ls h1 h2; exact ⟨ls, .refl _, h1, h2⟩
          | cons x _ ih =>
            intro ls h1 h2
            cases ls with
            | nil => simp at h1
            | cons l ls =>
              simp only [List.map_cons, List.cons.injEq] at h1
              simp only [List.map_cons] at h2
              cases h2 with
              | cons a b =>
                obtain ⟨ws, p1, p2, p3⟩ := ih ls h1.2 b
                exact ⟨l :: ws, .cons _ p1, by simp [p2, h1.1], .cons a p3⟩
          | swap x y l =>
            intro ls h1 h2
            match ls, h1, h2 with
            | l1 :: l2 :: ls, h1, h2 =>
              simp only [List.map_cons, List.cons.injEq] at h1
              simp only [List.map_cons] at h2
              cases h2 with
              | cons a b =>
                cases b with
                | cons b c => exact ⟨l2 :: l1 :: ls, .swap _ _ _, by simp [h1.1, h1.2.1, h1.2.2], .cons b (.cons a c)⟩
            | [l1], h1, _ => simp at h1
            | [], h1, _ => simp at h1
          | trans _ _ ih1 ih2 =>
            intro ls h1 h2
            obtain ⟨ws, p1, p2, p3⟩ := ih2 ls h1 h2
            obtain ⟨us, q1, q2, q3⟩ := ih1 ws p2 p3
            exact ⟨us, q1.trans p1, q2, q3⟩
        exact gen hz ks hk1.symm hk2
      obtain ⟨ws, p1, p2, p3⟩ := tie _ k2
      have srt : ws.Pairwise (fun e f => e.1 ≤ f.1) := by
        have a : (ps.map (·.2)).map (·.1) |>.Pairwise (· ≤ ·) := List.pairwise_map.mpr k3
        rw [← p2] at a
        exact List.pairwise_map.mp a
      have old : ∀ a, upd H1 w (L2.DX.itemsO w q) a = none → H1 a = none := fun a z => by
        by_cases e : a = w
        · rw [e]; exact hw
        · rw [upd_ne e] at z; exact z
      obtain ⟨I2, e2, W2, hI⟩ := W1.more ext (l :: ps.map (·.1)) fun a ha => by
        rcases List.mem_cons.mp ha with rfl | ha
        · exact ⟨old _ k4, _, k5⟩
        · obtain ⟨z, hz, rfl⟩ := List.mem_map.mp ha
          obtain ⟨z1, z2, z3⟩ := k6 z hz
          exact ⟨old _ z1, _, z3⟩
      refine C _ _ I2 N1 t1 H' (e1.trans e2) W2 (.lst ((hI l List.mem_cons_self).trans k5) ?_) (pp ws p1 srt)
      have go : ∀ (ps : List (Addr × Int × V)) (ws : List (Int × D)), (∀ z ∈ ps, I2 z.1 = some (.tup [.int z.2.1, z.2.2])) → ws.map (·.1) = (ps.map (·.2)).map (·.1) → RA X.K I1 ((ps.map (·.2)).map (·.2)) (ws.map (·.2)) → RA X.K I2 (ps.map fun z => V.ref z.1) (ws.map fun e => .tup [.int e.1, e.2]) := by
        intro ps
        induction ps with
        | nil =>
          intro ws _ h1 _
          cases ws with
          | nil => exact .nil
          | cons a b => simp at h1
        | cons z ps ih =>
          intro ws hz h1 h2
          cases ws with
          | nil => simp at h1
          | cons a b =>
            simp only [List.map_cons, List.cons.injEq] at h1
            simp only [List.map_cons] at h2
            cases h2 with
            | cons c d =>
              have q := hz z List.mem_cons_self
              rw [← h1.1] at q
              exact .cons (.tup q (.cons (.int _) (.cons (c.mono e2) .nil))) (ih _ (fun y hy => hz y (List.mem_cons_of_mem _ hy)) h1.2 d)
      exact go ps ws (fun z hz => (hI _ (List.mem_cons_of_mem _ (List.mem_map_of_mem hz))).trans (k6 z hz).2.2) p2 p3)
end
end Y
/-! Y: plain facts on data: equality, sorting by int keys, owned tables. -/
namespace Y
open PySem PySem.Spec PyProof.Rows L2

/-! ### equality of plain data -/
mutual
/-- nothing, ints, texts, tuples of such -/
def puD : D → Bool
  | .non => true
  | .int _ => true
  | .str _ => true
  | .tup xs => puDs xs
  | _ => false
def puDs : List D → Bool
  | [] => true
  | x :: xs => puD x && puDs xs
end
theorem puDs_mem : ∀ {xs : List D} {x : D}, puDs xs = true → x ∈ xs → puD x = true
  | y :: ys, x, h, m => by
    unfold puDs at h
    rw [Bool.and_eq_true] at h
    rcases List.mem_cons.mp m with rfl | m
    · exact h.1
    · exact puDs_mem h.2 m
theorem puDs_of : ∀ {xs : List D}, (∀ x ∈ xs, puD x = true) → puDs xs = true
  | [], _ => rfl
  | y :: ys, h => by unfold puDs; rw [h y List.mem_cons_self, puDs_of fun x m => h x (List.mem_cons_of_mem _ m)]; rfl
theorem depDs_mem : ∀ {xs : List D} {x : D}, x ∈ xs → depD x ≤ depDs xs
  | y :: ys, x, m => by
    unfold depDs
    rcases List.mem_cons.mp m with rfl | m
    · omega
    · have := depDs_mem m; omega
theorem depDs_le : ∀ {xs : List D} {n : Nat}, (∀ x ∈ xs, depD x ≤ n) → depDs xs ≤ n
  | [], _, _ => Nat.zero_le _
  | y :: ys, n, h => by unfold depDs; have := h y List.mem_cons_self; have := depDs_le fun x m => h x (List.mem_cons_of_mem _ m); omega
/-- f tells whether two are equal -/
def Tells (f : D → D → Option Bool) (a b : D) : Prop := ∃ k, f a b = some k ∧ (k = true ↔ a = b)
theorem eqL_tells {f : D → D → Option Bool} : ∀ {xs ys : List D}, (∀ x ∈ xs, ∀ y ∈ ys, Tells f x y) → ∃ k, eqL f xs ys = some k ∧ (k = true ↔ xs = ys)
  | [], [], _ => ⟨true, rfl, by simp⟩
  | [], _ :: _, _ => ⟨false, rfl, by simp⟩
  | _ :: _, [], _ => ⟨false, rfl, by simp⟩
  | x :: xs, y :: ys, h => by
    obtain ⟨a, ha, ia⟩ := h x List.mem_cons_self y List.mem_cons_self
    obtain ⟨b, hb, ib⟩ := eqL_tells (xs := xs) (ys := ys) fun u hu v hv => h u (List.mem_cons_of_mem _ hu) v (List.mem_cons_of_mem _ hv)
    refine ⟨a && b, by unfold eqL; rw [ha, hb], ?_⟩
    rw [Bool.and_eq_true, ia, ib, List.cons.injEq]
theorem eqF_tells {N : NN} : ∀ (n : Nat) (a b : D), puD a = true → puD b = true → depD a ≤ n → depD b ≤ n → Tells (eqF N (n + 1)) a b := by
  intro n
  induction n with
  | zero =>
    intro a b ha hb da db
    cases a with
    | non => cases b with
      | tup ys => unfold depD at db; omega
      | non => exact ⟨true, rfl, by simp⟩
      | int j => exact ⟨false, rfl, by simp⟩
      | str j => exact ⟨false, rfl, by simp⟩
      | _ => cases hb
    | int i => cases b with
      | tup ys => unfold depD at db; omega
      | non => exact ⟨false, rfl, by simp⟩
      | int j => exact ⟨i == j, rfl, by simp⟩
      | str j => exact ⟨false, rfl, by simp⟩
      | _ => cases hb
    | str i => cases b with
      | tup ys => unfold depD at db; omega
      | non => exact ⟨false, rfl, by simp⟩
      | int j => exact ⟨false, rfl, by simp⟩
      | str j => exact ⟨i == j, rfl, by simp⟩
      | _ => cases hb
    | tup xs => unfold depD at da; omega
    | _ => cases ha
  | succ n ih =>
    intro a b ha hb da db
    cases a with
    | non => cases b with
      | tup ys => exact ⟨false, rfl, by simp⟩
      | non => exact ⟨true, rfl, by simp⟩
      | int j => exact ⟨false, rfl, by simp⟩
      | str j => exact ⟨false, rfl, by simp⟩
      | _ => cases hb
    | int i => cases b with
      | tup ys => exact ⟨false, rfl, by simp⟩
      | non => exact ⟨false, rfl, by simp⟩
      | int j => exact ⟨i == j, rfl, by simp⟩
      | str j => exact ⟨false, rfl, by simp⟩
      | _ => cases hb
    | str i => cases b with
      | tup ys => exact ⟨false, rfl, by simp⟩
      | non => exact ⟨false, rfl, by simp⟩
      | int j => exact ⟨false, rfl, by simp⟩
      | str j => exact ⟨i == j, rfl, by simp⟩
      | _ => cases hb
    | tup xs => cases b with
      | tup ys =>
        unfold puD at ha hb
        unfold depD at da db
        obtain ⟨k, hk, ik⟩ := eqL_tells (f := eqF N (n + 1)) (xs := xs) (ys := ys) fun x hx y hy => ih x y (puDs_mem ha hx) (puDs_mem hb hy) (by have := depDs_mem hx; omega) (by have := depDs_mem hy; omega)
        refine ⟨k, ?_, by rw [ik, D.tup.injEq]⟩
        show eqL (eqF N (n + 1)) xs ys = some k
        exact hk
      | non => exact ⟨false, rfl, by simp⟩
      | int j => exact ⟨false, rfl, by simp⟩
      | str j => exact ⟨false, rfl, by simp⟩
      | _ => cases hb
    | _ => cases ha
theorem eqK_tells {f : D → D → Option Bool} {ls : List (Key × D)} : ∀ {ks : List (Key × D)}, (∀ p ∈ ks, ∀ q ∈ ls, Tells f p.2 q.2) → ∃ k, eqK f ls ks = some k ∧ (k = true ↔ ∀ p ∈ ks, lkp ls p.1 = some p.2)
  | [], _ => ⟨true, rfl, by simp⟩
  | q :: r, h => by
    obtain ⟨b, hb, ib⟩ := eqK_tells (ks := r) fun u hu v hv => h u (List.mem_cons_of_mem _ hu) v hv
    unfold eqK
    cases e : lkp ls q.1 with
    | none => exact ⟨false, rfl, by simp [e]⟩
    | some d =>
      have : ∃ p ∈ ls, p.2 = d := by
        unfold lkp at e
        cases z : ls.find? (fun kv => decide (kv.1 = q.1)) with
        | none => rw [z] at e; cases e
        | some p => rw [z] at e; cases e; exact ⟨p, List.mem_of_find?_eq_some z, rfl⟩
      obtain ⟨p, hp, rfl⟩ := this
      obtain ⟨a, ha, ia⟩ := h q List.mem_cons_self p hp
      refine ⟨a && b, by simp only [ha, hb], ?_⟩
      rw [Bool.and_eq_true, ia, ib]
      simp only [List.mem_cons, forall_eq_or_imp, e, Option.some.injEq]
      exact ⟨fun ⟨x, y⟩ => ⟨x.symm, y⟩, fun ⟨x, y⟩ => ⟨x.symm, y⟩⟩
/-- two dicts that are owned -/
theorem eqF_dicts {N : NN} {p q : Addr} {ks ls : List (Key × D)} {n : Nat} (hp : N p = some (.dk ks)) (hq : N q = some (.dk ls)) (h1 : ∀ e ∈ ks, puD e.2 = true ∧ depD e.2 ≤ n) (h2 : ∀ e ∈ ls, puD e.2 = true ∧ depD e.2 ≤ n) :
    ∃ k, eqF N (n + 2) (.ref p) (.ref q) = some k ∧ (k = true ↔ ks.length = ls.length ∧ ∀ e ∈ ks, lkp ls e.1 = some e.2) := by
  obtain ⟨k, hk, ik⟩ := eqK_tells (f := eqF N (n + 1)) (ls := ls) (ks := ks) fun a ha b hb => eqF_tells n _ _ (h1 a ha).1 (h2 b hb).1 (h1 a ha).2 (h2 b hb).2
  have e1 : shp N (.ref p) = .K ks := by simp [shp, hp]
  have e2 : shp N (.ref q) = .K ls := by simp [shp, hq]
  unfold eqF
  rw [e1, e2]
  show ∃ k, (if ks.length = ls.length then eqK (eqF N (n + 1)) ls ks else some false) = some k ∧ _
  by_cases hl : ks.length = ls.length
  · rw [if_pos hl]
    exact ⟨k, hk, by rw [ik]; exact ⟨fun h => ⟨hl, h⟩, fun h => h.2⟩⟩
  · rw [if_neg hl]
    exact ⟨false, rfl, by simp [hl]⟩

/-! ### sorted by int keys -/
abbrev eK (e : Int × D) : Key × D := (Sum.inl e.1, e.2)
theorem srt_uniq : ∀ {xs ys : List (Int × D)}, xs.Perm ys → xs.Pairwise (fun a b => a.1 ≤ b.1) → ys.Pairwise (fun a b => a.1 ≤ b.1) → (ys.map (·.1)).Nodup → xs = ys := by
  intro xs ys hp h1 h2 nd
  refine List.Perm.eq_of_pairwise (le := fun a b => a.1 ≤ b.1) (fun a b ha hb h1 h2 => ?_) h1 h2 hp
  have e : a.1 = b.1 := Int.le_antisymm h1 h2
  have ha : a ∈ ys := hp.mem_iff.mp ha
  obtain ⟨i, hi⟩ := List.mem_iff_getElem?.mp ha
  obtain ⟨j, hj⟩ := List.mem_iff_getElem?.mp hb
  have i1 : (ys.map (·.1))[i]? = some a.1 := by rw [List.getElem?_map, hi]; rfl
  have i2 : (ys.map (·.1))[j]? = some a.1 := by rw [List.getElem?_map, hj, e]; rfl
  have ij := (List.getElem?_inj (List.getElem?_eq_some_iff.mp i1).1 nd).mp (i1.trans i2.symm)
  subst ij
  rw [hi] at hj
  exact Option.some.inj hj
/-- sorted by the keys -/
def sK (ks : List (Int × D)) : List (Int × D) := ks.mergeSort fun a b => decide (a.1 ≤ b.1)
theorem sK_perm (ks : List (Int × D)) : (sK ks).Perm ks := List.mergeSort_perm _ _
theorem sK_srt (ks : List (Int × D)) : (sK ks).Pairwise (fun a b => a.1 ≤ b.1) := by
  have := List.pairwise_mergeSort (le := fun a b : Int × D => decide (a.1 ≤ b.1)) (fun a b c h1 h2 => by simp only [decide_eq_true_eq] at *; omega) (fun a b => by simp only [Bool.or_eq_true, decide_eq_true_eq]; omega) ks
  exact this.imp fun h => of_decide_eq_true h
theorem sK_of {xs ks : List (Int × D)} (hp : xs.Perm ks) (h : xs.Pairwise (fun a b => a.1 ≤ b.1)) (nd : (ks.map (·.1)).Nodup) : xs = sK ks :=
  srt_uniq (hp.trans (sK_perm ks).symm) h (sK_srt ks) (((sK_perm ks).map _).nodup_iff.mpr nd)
theorem lkp_mem {ks : List (Int × D)} (nd : (ks.map (·.1)).Nodup) {e : Int × D} (h : e ∈ ks) : lkp (ks.map eK) (Sum.inl e.1) = some e.2 := by
  induction ks with
  | nil => cases h
  | cons a r ih =>
    rw [List.map_cons, List.nodup_cons] at nd
    rcases List.mem_cons.mp h with rfl | h
    · simp [lkp, eK]
    · have ne : ¬ a.1 = e.1 := fun z => nd.1 (by rw [z]; exact List.mem_map_of_mem h)
      have := ih nd.2 h
      unfold lkp at this ⊢
      rw [List.map_cons, List.find?_cons_of_neg]
      · exact this
      · simpa using ne
theorem lkp_of {ks : List (Int × D)} {k : Int} {d : D} (h : lkp (ks.map eK) (Sum.inl k) = some d) : (k, d) ∈ ks := by
  induction ks with
  | nil => cases h
  | cons a r ih =>
    unfold lkp at h
    by_cases e : a.1 = k
    · rw [List.map_cons, List.find?_cons_of_pos (by simpa using e)] at h
      cases h
      subst e
      exact List.mem_cons_self
    · rw [List.map_cons, List.find?_cons_of_neg (by simpa using e)] at h
      exact List.mem_cons_of_mem _ (ih h)
theorem perm_sub {α : Type} : ∀ {ks ls : List α}, ks.Nodup → (∀ e ∈ ks, e ∈ ls) → ls.length ≤ ks.length → ks.Perm ls
  | [], ls, _, _, h => by
    have : ls = [] := List.eq_nil_of_length_eq_zero (by simpa using h)
    rw [this]
  | a :: ks, ls, nd, h, hl => by
    rw [List.nodup_cons] at nd
    obtain ⟨s, t, rfl⟩ := List.append_of_mem (h a List.mem_cons_self)
    have ih : ks.Perm (s ++ t) := perm_sub nd.2 (fun e he => by
      have ne : e ≠ a := fun z => nd.1 (by rw [← z]; exact he)
      have := h e (List.mem_cons_of_mem _ he)
      rw [List.mem_append, List.mem_cons] at this
      rw [List.mem_append]
      rcases this with x | x | x
      · exact .inl x
      · exact absurd x ne
      · exact .inr x) (by rw [List.length_append, List.length_cons, List.length_cons] at hl; rw [List.length_append]; omega)
    exact (List.Perm.cons a ih).trans List.perm_middle.symm
/-- two such dicts are equal just where they hold the same -/
theorem same_dict {ks ls : List (Int × D)} (h1 : (ks.map (·.1)).Nodup) (h2 : (ls.map (·.1)).Nodup) : ((ks.map eK).length = (ls.map eK).length ∧ ∀ e ∈ ks.map eK, lkp (ls.map eK) e.1 = some e.2) ↔ ks.Perm ls := by
  constructor
  · rintro ⟨hl, h⟩
    rw [List.length_map, List.length_map] at hl
    have sub : ∀ e ∈ ks, e ∈ ls := fun e he => lkp_of (h _ (List.mem_map_of_mem (f := eK) he))
    have nk : ks.Nodup := List.Pairwise.of_map _ (fun a b h e => h (by rw [e])) h1
    exact perm_sub nk sub (by omega)
  · intro hp
    refine ⟨by rw [List.length_map, List.length_map]; exact hp.length_eq, fun e he => ?_⟩
    obtain ⟨a, ha, rfl⟩ := List.mem_map.mp he
    exact lkp_mem h2 (hp.mem_iff.mp ha)

/-! ### owned tables -/
theorem put_none {N : NN} {p q : Addr} {d : D} (h : put N p d q = none) : q ≠ p ∧ N q = none := by
  by_cases e : q = p
  · subst e; rw [put_same] at h; cases h
  · exact ⟨e, by rwa [put_ne e] at h⟩
theorem NLe.trans {A B C : NN} (h : NLe A B) (k : NLe B C) : NLe A C := fun q d e => k q d (h q d e)
theorem NLe.none {A B : NN} {q : Addr} (h : NLe A B) (e : B q = none) : A q = none := by
  cases z : A q with
  | none => rfl
  | some d => rw [h q d z] at e; cases e
end Y
/-! Y: a def that stands under a global name -/
namespace Y
open PySem PySem.Spec PyProof.Rows L2
structure FnAt (P : Program) (w : World) (K : PySem.W.Frag) (mg : Str → Option Value) (base : Heap) (k : Nat) (x : Str) (ps : List Str) (sp : Sp) : Prop where
  ex : ∃ (f : Addr) (fd : FuncData), FnG P w K mg base CX0 k f fd ps sp ∧ mg x = some (.ref f) ∧ PySem.W.keepIn K (.ref f) = true ∧ Binds K fd ps []
section
variable {τ : Type} {J : τ → Hp → Prop} {X : Cx} {env : EnvD} {N : NN} {t : τ} {pos : Pos} {P : D → NN → τ → Prop}
theorem ev_fn {k j : Nat} {ps : List Str} {pre : PreD τ} {x : Str} {p : Pos} {e : Expr} {es : List Expr} (F : FnAt X.prog X.w X.K X.mg X.base k x ps (Fsp J X.K pre)) (hr : Rm j X.A) (hj : k ≤ j)
    (h : EvA J X (e :: es) env N t fun ds N1 t1 => pre ds N1 t1 P) (hg : Gl X x := by rfl) (hdb : (x == ("__debug__" : Str)) = false := by decide) (he : starEach (e :: es) X.env = (false, eval e X.env) :: starEach es X.env := by rfl)
    (hpl : (backTo pos (starEach es X.env)).any (·.1) = false := by rfl) : EvE J X (.Call (.Name x p) (e :: es) [] pos) env N t P := by
  obtain ⟨f, fd, G, m, kp, b⟩ := F.ex
  exact ev_call (G.less hj) hr m kp b h hg hdb he hpl
end
end Y
/-! Y: a row of targets -/
namespace Y
open PySem PySem.Spec PyProof.Rows L2
/-- no target of the row is starred -/
def PlainT (env : Env) : List Expr → Prop
  | [] => True
  | e :: es => (assignEach (e :: es) env).map (·.2) = assign e env :: (assignEach es env).map (·.2) ∧ PlainT env es
section
variable {τ : Type} {J : τ → Hp → Prop} {X : Cx} {env : EnvD} {N : NN} {t : τ} {pos : Pos}
theorem TgsE.run : ∀ {tgs : List Expr} {ds : List D} {env : EnvD} {N : NN} {t : τ} {PE : EnvD → NN → τ → Prop}, PlainT X.env tgs → TgsE J X tgs ds env N t PE →
    ∀ {vs : List V} {σ : L2.St} {H I : Hp} {Q : L2.St → Hp → Prop}, Wd J X.K I N t H → Sl X.K I σ env → RA X.K I vs ds → (∀ env' I' N' t' σ' H', Ex I I' → Wd J X.K I' N' t' H' → Sl X.K I' σ' env' → PE env' N' t' → Q σ' H') → wGs X tgs vs σ H Q
  | [], [], _, _, _, _, _, h, _, _, _, I, _, W, S, r, C => by
    cases r
    exact pgs_to pgs_nil ⟨rfl, C _ I _ _ _ _ (Ex.refl I) W S h⟩
  | tg :: tgs, d :: ds, _, _, _, _, hp, h, _, _, _, I, _, W, S, r, C => by
    cases r with
    | cons r1 r2 =>
      exact pgs_to (pgs_cons pg_w pgs_w hp.1) ⟨_, _, rfl, h _ _ _ I _ W S r1 fun env' I' N' t' σ' H' e W' S' p => TgsE.run hp.2 p W' S' (r2.mono e) fun env2 I2 N2 t2 σ2 H2 e2 W2 S2 q => C env2 I2 N2 t2 σ2 H2 (e.trans e2) W2 S2 q⟩
  | [], _ :: _, _, _, _, _, _, h, _, _, _, _, _, _, _, _, _ => h.elim
  | _ :: _, [], _, _, _, _, _, h, _, _, _, _, _, _, _, _, _ => h.elim
/-- a, b, .. = a tuple -/
theorem tg_row {es : List Expr} {k : Nat} {d : D} {ds : List D} {PE : EnvD → NN → τ → Prop} (hc : X.calm = true) (hd : TV d ds) (h : TgsE J X es ds env N t PE) (hl : ds.length = es.length := by rfl)
    (hs : PlainT X.env es := by repeat' (first | exact trivial | refine ⟨rfl, ?_⟩))
    (hn : (assignEach es X.env).length = es.length := by rfl) (hst : (assignEach es X.env).findIdx? (·.1) = none := by rfl) : TgE J X (.Tuple es k pos) d env N t PE := fun v σ H I Q W S r C => by
  obtain ⟨a, vs, rfl, sq, ra⟩ := hd.sq W r
  exact PG.w (pg_tup hc pgs_w hn hst) ⟨a, vs, rfl, sq, by rw [ra.length]; exact hl, h.run hs W S ra C⟩
end
end Y
namespace K26
open PySem PySem.Spec PyProof.Rows L2 Y
def top (i : Nat) : Stmt := PySem.Challenge.pw_frozenmakers_k26_tables_told.main.body.getD i (.Pass ⟨0, 0, 0, 0⟩)
abbrev FnP (K : PySem.W.Frag) (x : Str) (st : Stmt) (f : Addr) (fd : FuncData) : Prop := FunD K x x (defArgs st) (defBody st) (defScope st) [] [] f fd
abbrev sTake : Stmt := top 5

theorem lkp_pos {κ : Type} [DecidableEq κ] {β : Type} {k k' : κ} {v : β} {r : List (κ × β)} (h : k = k') : lkp ((k, v) :: r) k' = some v := by simp [lkp, List.find?_cons, h]
theorem lkp_neg {κ : Type} [DecidableEq κ] {β : Type} {k k' : κ} {v : β} {r : List (κ × β)} (h : ¬ k = k') : lkp ((k, v) :: r) k' = lkp r k' := by simp [lkp, List.find?_cons, h]
theorem putP_neg {κ : Type} [DecidableEq κ] {β : Type} {k k' : κ} {v v' : β} {r : List (κ × β)} (h : ¬ k = k') : putP ((k, v) :: r) k' v' = (k, v) :: putP r k' v' := by
  unfold putP
  rw [List.any_cons, decide_eq_false h, Bool.false_or]
  split
  · rw [List.map_cons, if_neg h]
  · rfl
theorem putP_pos {κ : Type} [DecidableEq κ] {β : Type} {k k' : κ} {v v' : β} {r : List (κ × β)} (h : k = k') (hn : ∀ p ∈ r, ¬ p.1 = k') : putP ((k, v) :: r) k' v' = (k, v') :: r := by
  unfold putP
  rw [List.any_cons, decide_eq_true h, Bool.true_or, if_pos rfl, List.map_cons, if_pos h]
  congr 1
  conv => rhs; rw [← List.map_id r]
  exact List.map_congr_left fun p hp => if_neg (hn p hp)
abbrev kS (s : Str) : Key := Sum.inr s
def sd (g c : Addr) (rest turn seed : Int) : List (Key × D) := [(kS "great", .ref g), (kS "rest", .int rest), (kS "turn", .int turn), (kS "seed", .int seed), (kS "cells", .ref c)]
section
variable {g c : Addr} {rest turn seed x : Int}
theorem k12 : ¬ ((kS "great" : Key) = kS "rest") := by decide +kernel
theorem k13 : ¬ ((kS "great" : Key) = kS "turn") := by decide +kernel
theorem k14 : ¬ ((kS "great" : Key) = kS "seed") := by decide +kernel
theorem k15 : ¬ ((kS "great" : Key) = kS "cells") := by decide +kernel
theorem k23 : ¬ ((kS "rest" : Key) = kS "turn") := by decide +kernel
theorem k24 : ¬ ((kS "rest" : Key) = kS "seed") := by decide +kernel
theorem k25 : ¬ ((kS "rest" : Key) = kS "cells") := by decide +kernel
theorem k34 : ¬ ((kS "turn" : Key) = kS "seed") := by decide +kernel
theorem k35 : ¬ ((kS "turn" : Key) = kS "cells") := by decide +kernel
theorem k45 : ¬ ((kS "seed" : Key) = kS "cells") := by decide +kernel
theorem sd_great : lkp (sd g c rest turn seed) (kS "great") = some (.ref g) := lkp_pos rfl
theorem sd_rest : lkp (sd g c rest turn seed) (kS "rest") = some (.int rest) := (lkp_neg k12).trans (lkp_pos rfl)
theorem sd_turn : lkp (sd g c rest turn seed) (kS "turn") = some (.int turn) := (lkp_neg k13).trans ((lkp_neg k23).trans (lkp_pos rfl))
theorem sd_seed : lkp (sd g c rest turn seed) (kS "seed") = some (.int seed) := (lkp_neg k14).trans ((lkp_neg k24).trans ((lkp_neg k34).trans (lkp_pos rfl)))
theorem sd_cells : lkp (sd g c rest turn seed) (kS "cells") = some (.ref c) := (lkp_neg k15).trans ((lkp_neg k25).trans ((lkp_neg k35).trans ((lkp_neg k45).trans (lkp_pos rfl))))
theorem sd_putRest : putP (sd g c rest turn seed) (kS "rest") (.int x) = sd g c x turn seed := by
  unfold sd
  rw [putP_neg k12, putP_pos rfl]
  intro p hp
  simp only [List.mem_cons, List.not_mem_nil, or_false] at hp
  rcases hp with rfl | rfl | rfl
  · exact fun e => k23 e.symm
  · exact fun e => k24 e.symm
  · exact fun e => k25 e.symm
theorem sd_putTurn : putP (sd g c rest turn seed) (kS "turn") (.int x) = sd g c rest x seed := by
  unfold sd
  rw [putP_neg k13, putP_neg k23, putP_pos rfl]
  intro p hp
  simp only [List.mem_cons, List.not_mem_nil, or_false] at hp
  rcases hp with rfl | rfl
  · exact fun e => k34 e.symm
  · exact fun e => k35 e.symm
theorem sd_putSeed : putP (sd g c rest turn seed) (kS "seed") (.int x) = sd g c rest turn x := by
  unfold sd
  rw [putP_neg k14, putP_neg k24, putP_neg k34, putP_pos rfl]
  intro p hp
  simp only [List.mem_cons, List.not_mem_nil, or_false] at hp
  subst hp
  exact fun e => k45 e.symm
end
/-- the state of the draws: where it lies, how many have been at most -/
abbrev Tau := Option (Addr × Nat)
def stN (d g c : Addr) (great cells : List Int) (rest turn seed : Int) : NN := put (put (put N0 c (.lst (cells.map D.int))) g (.lst (great.map D.int))) d (.dk (sd g c rest turn seed))
structure StOk (n : Nat) (great cells : List Int) (rest turn seed : Int) : Prop where
  r0 : 0 ≤ rest
  gp : ∀ x ∈ great, 0 < x
  t0 : 0 ≤ turn
  tn : turn ≤ n
  s0 : 0 ≤ seed
  s1 : seed < 2147483647
  c0 : cells ≠ []
  cl : cells.length ≤ 100
  cb : ∀ x ∈ cells, 0 ≤ x ∧ x < 2147483629
def phi : Tau → NN → Prop
  | none, M => M = N0
  | some (d, n), M => ∃ g c great cells rest turn seed, M = stN d g c great cells rest turn seed ∧ d ≠ g ∧ d ≠ c ∧ g ≠ c ∧ StOk n great cells rest turn seed
section
variable {d g c : Addr} {great cells : List Int} {rest turn seed : Int} {N : NN}
theorem stN_d : stN d g c great cells rest turn seed d = some (.dk (sd g c rest turn seed)) := put_same
theorem stN_g (h : d ≠ g) : stN d g c great cells rest turn seed g = some (.lst (great.map D.int)) := by unfold stN; rw [put_ne h.symm, put_same]
theorem stN_c (h : d ≠ c) (h2 : g ≠ c) : stN d g c great cells rest turn seed c = some (.lst (cells.map D.int)) := by unfold stN; rw [put_ne h.symm, put_ne h2.symm, put_same]
theorem stN_put (x y z : Int) : put (stN d g c great cells rest turn seed) d (.dk (sd g c x y z)) = stN d g c great cells x y z := by unfold stN; rw [put_put]
theorem stN_putG (h : d ≠ g) (gr : List Int) : put (stN d g c great cells rest turn seed) g (.lst (gr.map D.int)) = stN d g c gr cells rest turn seed := by
  unfold stN
  funext q
  by_cases e : q = g
  · subst e; rw [put_same, put_ne h.symm, put_same]
  · rw [put_ne e]
    by_cases e2 : q = d
    · subst e2; rw [put_same, put_same]
    · rw [put_ne e2, put_ne e2, put_ne e, put_ne e]
theorem stN_some {p : Addr} {x : D} (hdg : d ≠ g) (hdc : d ≠ c) (hgc : g ≠ c) (h : stN d g c great cells rest turn seed p = some x) : closedO x = true ∧ (p = d ∨ p = g ∨ p = c) := by
  have fl : ∀ ns : List Int, closedO (.lst (ns.map D.int)) = true := fun ns => by
    show (ns.map D.int).all closed1 = true
    rw [List.all_map, List.all_eq_true]; intro z _; rfl
  by_cases e : p = d
  · subst e; rw [stN_d] at h; cases h; exact ⟨rfl, .inl rfl⟩
  · by_cases e2 : p = g
    · subst e2; rw [stN_g hdg] at h; cases h; exact ⟨fl _, .inr (.inl rfl)⟩
    · by_cases e3 : p = c
      · subst e3; rw [stN_c hdc hgc] at h; cases h; exact ⟨fl _, .inr (.inr rfl)⟩
      · unfold stN at h
        rw [put_ne e, put_ne e2, put_ne e3] at h
        cases h
end
/-- what a draw gives -/
def spTake : PreD Tau := fun ds N t P => ∃ (d : Addr) (m : Int) (n : Nat), ds = [.ref d, .int m] ∧ t = some (d, n) ∧ 1 ≤ m ∧ m < 1073741824 ∧ n < 1000000 ∧ ∀ r : Int, 0 ≤ r → r < m → P (.int r) N (some (d, n + 1))
section
variable {P : Program} {w : World} {K : PySem.W.Frag} {mg : Str → Option Value} {base : Heap}
theorem scTake : FnScope ["state", "many", "found", "turn", "cell", "seed", "mixed"] ["state", "many"] (defScope sTake) := ⟨rfl, rfl, rfl, by decide +kernel, rfl, by decide +kernel, by decide +kernel⟩
theorem ok_take {f : Addr} {fd : FuncData} (F : FnP K "_law_take" sTake f fd) (gL : mg "len" = none) : FnG P w K mg base CX0 1 f fd ["state", "many"] (Fsp (Jof K phi) K spTake) := by
  refine fn_ok F scTake (fun ds N t P h => ?_) fun cdv A outer s H E ds N t P hr h => ?_
  · obtain ⟨d, m, n, rfl, _⟩ := h
    rfl
  obtain ⟨d, m, n, rfl, rfl, hm1, hm2, hn, hP⟩ := h
  have hu := hr.units
  refine ss_open fun M ph hc => ?_
  obtain ⟨g, c, great, cells, rest, turn, seed, rfl, hdg, hdc, hgc, ok⟩ := ph
  have Xd : ∀ {great cells : List Int} {rest turn seed : Int}, uni N (stN d g c great cells rest turn seed) d = some (.dk (sd g c rest turn seed)) := uni_r stN_d
  have Xg : ∀ {great cells : List Int} {rest turn seed : Int}, uni N (stN d g c great cells rest turn seed) g = some (.lst (great.map D.int)) := uni_r (stN_g hdg)
  have Xc : ∀ {great cells : List Int} {rest turn seed : Int}, uni N (stN d g c great cells rest turn seed) c = some (.lst (cells.map D.int)) := uni_r (stN_c hdc hgc)
  have Nd : N d = none := (hc d _ stN_d).2
  have Ng : N g = none := (hc g _ (stN_g hdg)).2
  have Nc : N c = none := (hc c _ (stN_c hdc hgc)).2
  have hc' : ∀ {great cells : List Int} {rest turn seed : Int} p x, stN d g c great cells rest turn seed p = some x → closedO x = true ∧ N p = none := fun p x h => by
    obtain ⟨a, b⟩ := stN_some hdg hdc hgc h
    refine ⟨a, ?_⟩
    rcases b with rfl | rfl | rfl
    · exact Nd
    · exact Ng
    · exact Nc
  have out : ∀ {great cells : List Int} {rest turn seed : Int} (r : Int), 0 ≤ r → r < m → StOk (n + 1) great cells rest turn seed → opn phi (P (.int r)) (uni N (stN d g c great cells rest turn seed)) := fun r h0 h1 ok =>
    ⟨_, N, some (d, n + 1), rfl, ⟨g, c, _, _, _, _, _, rfl, hdg, hdc, hgc, ok⟩, hc', hP r h0 h1⟩
  refine ss_cut (fun e' N' _ => e' = startD ["state", "many", "found", "turn", "cell", "seed", "mixed"] [.ref d, .int m] ∧ ∃ great' rest', N' = uni N (stN d g c great' cells rest' turn seed) ∧ StOk n great' cells rest' turn seed) ?_ ?_
  · refine (st_if (et_w (ew_and (et_cmp (ev_item hu (ev_name (i := 0) rfl (ev_str (?_))))))))
    refine ⟨_, ItD.ds (DV.o Xd) sd_rest, ?_⟩ -- ITEM state['rest']
    refine ev_int (?_)
    refine od_eqI hu ?_ -- Eq: state['rest'] == 0
    refine ⟨_, rfl, ?_⟩
    refine ⟨fun hT => ?_, fun hT => ⟨fun h => Bool.noConfusion h, fun _ => ss_nil ⟨rfl, _, _, rfl, ok⟩⟩⟩ -- and
    refine ew_one (et_cmp (ev_item hu (ev_name (i := 0) rfl (ev_str (?_)))))
    refine ⟨_, ItD.ds (DV.o Xd) sd_great, ?_⟩ -- ITEM state['great']
    refine ev_lst (ea_nil (⟨Nat.le_of_ble_eq_true rfl, ?_⟩))
    refine od_neNil hu (LV.o Xg) LV.i ?_ -- NotEq: state['great'] != []
    refine ⟨_, rfl, ?_⟩
    refine ⟨fun hT2 => ?_, fun hT2 => ss_nil ⟨rfl, _, _, rfl, ok⟩⟩
    cases great with
    | nil => simp at hT2
    | cons x gr =>
      refine ss_cons (st_dput hu (ev_bm PySem.F.plainAttrs_list PySem.F.slot_list_pop PySem.F.type_list_pop (ev_item hu (ev_name (i := 0) rfl (ev_str (?_))))))
      refine ⟨_, ItD.ds (DV.o Xd) sd_great, ?_⟩ -- ITEM state['great']
      refine ⟨.inl ⟨rfl, _, LV.o Xg⟩, ea_cons (ev_int (ea_nil (?_)))⟩
      refine md_popAt (k := 0) Xg (by simp [seqIndex?]) rfl (by decide) ?_
      refine ev_name (i := 0) rfl (ev_str (?_))
      rw [uni_put, show (List.map D.int (x :: gr)).eraseIdx 0 = gr.map D.int from rfl, stN_putG hdg]
      refine .inl ⟨_, _, kS "rest", rfl, Xd, rfl, by show 5 < 100000; decide, ?_⟩ -- STORE state['rest'] = state['great'].pop(0)
      rw [uni_put, sd_putRest, stN_put]
      refine ss_nil ⟨rfl, gr, x, rfl, ?_⟩
      exact { ok with r0 := Int.le_of_lt (ok.gp x List.mem_cons_self), gp := fun y hy => ok.gp y (List.mem_cons_of_mem _ hy) }
  · rintro _ _ _ ⟨rfl, great, rest, rfl, ok⟩
    refine ss_cons (st_if (et_cmp (ev_item hu (ev_name (i := 0) rfl (ev_str (?_))))))
    refine ⟨_, ItD.ds (DV.o Xd) sd_rest, ?_⟩ -- ITEM state['rest']
    refine ev_int (?_)
    refine od_gt ?_ -- Gt: state['rest'] > 0
    refine ⟨_, rfl, ?_⟩
    refine ⟨fun hT => ?_, fun hT => ?_⟩
    ·
      refine ss_cons (st_set 2 scTake.nd (ev_bin (ev_item hu (ev_name (i := 0) rfl (ev_str (?_))))))
      refine ⟨_, ItD.ds (DV.o Xd) sd_rest, ?_⟩ -- ITEM state['rest']
      refine ev_name (i := 1) rfl (?_)
      refine od_mod (by omega) ?_ -- Mod: state['rest'] % many
      refine ss_cons (st_dput hu (ev_bin (ev_item hu (ev_name (i := 0) rfl (ev_str (?_))))))
      refine ⟨_, ItD.ds (DV.o Xd) sd_rest, ?_⟩ -- ITEM state['rest']
      refine ev_name (i := 1) rfl (?_)
      refine od_fdiv ⟨by omega, hm2⟩ ?_ -- FloorDiv: state['rest'] // many
      refine ev_name (i := 0) rfl (ev_str (?_))
      refine .inl ⟨_, _, kS "rest", rfl, Xd, rfl, by show 5 < 100000; decide, ?_⟩ -- STORE state['rest'] = state['rest'] // many
      rw [uni_put, sd_putRest, stN_put]
      refine ss_cons (st_ret (ev_name (i := 2) rfl (?_)))
      refine out _ (Int.emod_nonneg _ (by omega)) (Int.emod_lt_of_pos _ (by omega)) ?_
      exact { ok with r0 := Int.ediv_nonneg ok.r0 (by omega), tn := by have := ok.tn; omega }
    ·
      refine ss_nil (?_)
      have t0 := ok.t0
      have tn := ok.tn
      have s0 := ok.s0
      have s1 := ok.s1
      have cpos : 0 < cells.length := List.length_pos_iff.mpr ok.c0
      refine ss_cons (st_set 3 scTake.nd (ev_item hu (ev_name (i := 0) rfl (ev_str (?_)))))
      refine ⟨_, ItD.ds (DV.o Xd) sd_turn, ?_⟩ -- ITEM state['turn']
      refine ss_cons (st_dput hu (ev_bin (ev_name (i := 3) rfl (ev_int (?_)))))
      refine od_add ?_ -- Add: turn + 1
      refine ev_name (i := 0) rfl (ev_str (?_))
      refine .inl ⟨_, _, kS "turn", rfl, Xd, rfl, by show 5 < 100000; decide, ?_⟩ -- STORE state['turn'] = turn + 1
      rw [uni_put, sd_putTurn, stN_put]
      refine ss_cons (st_set 4 scTake.nd (ev_item hu (ev_item hu (ev_name (i := 0) rfl (ev_str (?_))))))
      refine ⟨_, ItD.ds (DV.o Xd) sd_cells, ?_⟩ -- ITEM state['cells']
      refine ev_bin (ev_name (i := 3) rfl (ev_callB gL boot_len (ea_cons (ev_item hu (ev_name (i := 0) rfl (ev_str (?_)))))))
      refine ⟨_, ItD.ds (DV.o Xd) sd_cells, ?_⟩ -- ITEM state['cells']
      refine ea_nil (?_)
      refine cd_len (.inl (LV.o Xc)) ?_ -- BUILTIN len(state['cells'])
      rw [List.length_map]
      refine od_mod (by omega) ?_ -- Mod: turn % len(state['cells'])
      obtain ⟨k, hk, hkl⟩ : ∃ k : Nat, turn % (cells.length : Int) = (k : Int) ∧ k < cells.length := by
        have h1 := Int.emod_nonneg turn (b := (cells.length : Int)) (by omega)
        have h2 := Int.emod_lt_of_pos turn (b := (cells.length : Int)) (by omega)
        exact ⟨(turn % (cells.length : Int)).toNat, by omega, by omega⟩
      rw [hk]
      refine ⟨.int cells[k], ItD.l (LV.o Xc) (atI_nat (by rw [List.getElem?_map, List.getElem?_eq_getElem hkl]; rfl)), ?_⟩ -- ITEM state['cells'][turn % len(state['cells'])]
      obtain ⟨cb0, cb1⟩ := ok.cb cells[k] (List.getElem_mem hkl)
      refine ss_cons (st_set 5 scTake.nd (ev_bin (ev_bin (ev_bin (ev_bin (ev_item hu (ev_name (i := 0) rfl (ev_str (?_)))))))))
      refine ⟨_, ItD.ds (DV.o Xd) sd_seed, ?_⟩ -- ITEM state['seed']
      refine ev_int (?_)
      refine od_mul (.inr (by decide)) ?_ -- Mult: state['seed'] * 48271
      refine ev_bin (ev_name (i := 4) rfl (ev_bin (ev_bin (ev_int (ev_name (i := 3) rfl (?_))))))
      refine od_mul (.inl (by decide)) ?_ -- Mult: 2 * turn
      refine ev_int (?_)
      refine od_add ?_ -- Add: 2 * turn + 3
      refine od_mul (.inl (by omega)) ?_ -- Mult: cell * (2 * turn + 3)
      refine od_add ?_ -- Add: state['seed'] * 48271 + cell * (2 * turn + 3)
      refine ev_bin (ev_name (i := 3) rfl (ev_int (?_)))
      refine od_pow ⟨by decide, by decide, by omega⟩ ?_ -- Pow: turn ** 3
      refine od_add ?_ -- Add: state['seed'] * 48271 + cell * (2 * turn + 3) + turn ** 3
      refine ev_int (?_)
      refine od_mod (by decide) ?_ -- Mod: (state['seed'] * 48271 + cell * (2 * turn + 3) + turn ** 3) % 2147483647
      generalize hz : (seed * 48271 + cells[k] * (2 * turn + 3) + turn ^ Int.toNat 3) % 2147483647 = z
      have z0 : 0 ≤ z := by rw [← hz]; exact Int.emod_nonneg _ (by decide)
      have z1 : z < 2147483647 := by rw [← hz]; exact Int.emod_lt_of_pos _ (by decide)
      refine ss_cons (st_dput hu (ev_name (i := 5) rfl (ev_name (i := 0) rfl (ev_str (?_)))))
      refine .inl ⟨_, _, kS "seed", rfl, Xd, rfl, by show 5 < 100000; decide, ?_⟩ -- STORE state['seed'] = seed
      rw [uni_put, sd_putSeed, stN_put]
      refine ss_cons (st_set 6 scTake.nd (ev_bin (ev_bin (ev_bin (ev_bin (ev_name (i := 5) rfl (ev_int (?_))))))))
      refine od_pow ⟨by decide, by decide, by omega⟩ ?_ -- Pow: seed ** 2
      refine ev_int (?_)
      refine od_mod (by decide) ?_ -- Mod: seed ** 2 % 2147483629
      refine ev_int (?_)
      refine od_mul (.inr (by decide)) ?_ -- Mult: seed ** 2 % 2147483629 * 2147483587
      refine ev_bin (ev_bin (ev_name (i := 5) rfl (ev_int (?_))))
      refine od_pow ⟨by decide, by decide, by omega⟩ ?_ -- Pow: seed ** 3
      refine ev_int (?_)
      refine od_mod (by decide) ?_ -- Mod: seed ** 3 % 2147483579
      refine od_add ?_ -- Add: seed ** 2 % 2147483629 * 2147483587 + seed ** 3 % 2147483579
      refine ss_cons (st_ret (ev_bin (ev_bin (ev_name (i := 6) rfl (ev_int (?_))))))
      refine od_fdiv ⟨by decide, by decide⟩ ?_ -- FloorDiv: mixed // 7
      refine ev_name (i := 1) rfl (?_)
      refine od_mod (by omega) ?_ -- Mod: mixed // 7 % many
      refine out _ (Int.emod_nonneg _ (by omega)) (Int.emod_lt_of_pos _ (by omega)) ?_
      exact { ok with t0 := by omega, tn := by push_cast; omega, s0 := z0, s1 := z1 }
end
end K26
namespace K26
open PySem PySem.Spec PyProof.Rows L2 Y
section
variable {P : Program} {w : World} {K : PySem.W.Frag} {mg : Str → Option Value} {base : Heap} {τ : Type} {J : τ → Hp → Prop}
abbrev sBy : Stmt := top 1
theorem scBy : FnScope ["told", "key"] ["told"] (defScope sBy) := ⟨rfl, rfl, rfl, by decide +kernel, rfl, by decide +kernel, by decide +kernel⟩
def spBy : PreD τ := fun ds N t P => ∃ (x : D) (ks : List (Int × D)), ds = [x] ∧ DV N x (ks.map eK) ∧ (ks.map (·.1)).Nodup ∧ ks.length < 64 ∧ ∀ p, N p = none → P (.ref p) (put N p (.dk ((sK ks).map eK))) t
theorem keys_perm {ks : List (Int × D)} {ys : List Int} (hp : ys.Perm (ks.map (·.1))) (hs : ys.Pairwise (· ≤ ·)) (nd : (ks.map (·.1)).Nodup) : ys = (sK ks).map (·.1) := by
  refine List.Perm.eq_of_pairwise (le := (· ≤ ·)) (fun a b _ _ h1 h2 => Int.le_antisymm h1 h2) hs (List.pairwise_map.mpr (sK_srt ks)) (hp.trans ((sK_perm ks).map _).symm)
theorem ok_by {f : Addr} {fd : FuncData} (F : FnP K "by_keys" sBy f fd) (gS : mg "sorted" = none) : FnG P w K mg base CX0 1 f fd ["told"] (Fsp J K spBy) := by
  refine fn_ok F scBy (fun ds N t P h => ?_) fun cdv A outer s H E ds N t P hr h => ?_
  · obtain ⟨x, ks, rfl, _⟩ := h
    rfl
  obtain ⟨x, ks, rfl, hx, nd, hl, hP⟩ := h
  have hu := hr.units
  refine ss_cons (st_ret (ev_dcN [("key", 1)] rfl scBy.nd (blkOk_by (show blkC ["told", "key"] (defScope sBy) _ _ = true by decide +kernel)) (fun _ _ _ _ _ => pg_name (i := 1) scBy.nd rfl (Or.inl rfl)) (og_name (by decide)) (pi_lst (ev_callB gS boot_sorted (ea_cons (ev_name (i := 0) rfl (ea_nil (?_))))))))
  refine cd_sortDI rfl hx (ks := ks.map (·.1)) (by rw [List.map_map, List.map_map]; rfl) (by rw [List.length_map]; exact hl) fun ys hp hs => ?_
  have ey := keys_perm hp hs nd
  subst ey
  refine ⟨_, .inl rfl, fun p np => ⟨fun i acc N1 t1 => acc = ((sK ks).take i).map eK ∧ N1 = put N p (.dk acc) ∧ t1 = t, ⟨rfl, rfl, rfl⟩, ?_, ?_, ?_⟩⟩
  · rintro i acc N1 t1 ⟨_, rfl, _⟩
    exact ⟨trivial, put_same⟩
  · rintro i d acc N1 t1 hd ⟨rfl, rfl, rfl⟩
    rw [List.getElem?_map, List.getElem?_map] at hd
    cases he : (sK ks)[i]? with
    | none => rw [he] at hd; cases hd
    | some e =>
      rw [he] at hd
      cases hd
      have mem : e ∈ ks := (sK_perm ks).mem_iff.mp (List.mem_of_getElem? he)
      have hi : i < (sK ks).length := (List.getElem?_eq_some_iff.mp he).1
      have len : (sK ks).length = ks.length := (sK_perm ks).length_eq
      refine tr_name fun s0 H0 Ca cl fp => ⟨fun h => Bool.noConfusion h, fun _ s1 H1 Ca1 cl1 fp1 => ?_⟩
      refine ev_name (i := 1) rfl fun s2 H2 Ca2 cl2 fp2 => ?_
      refine ev_item hu (ev_name (i := 0) rfl (ev_name (i := 1) rfl ?_))
      have hx' : DV (put N p (.dk (((sK ks).take i).map eK))) x (ks.map eK) := by
        rcases hx with h | ⟨q, h, hq⟩
        · exact .inl h
        · exact .inr ⟨q, h, by rw [put_ne (nn_ne hq np)]; exact hq⟩
      refine ⟨_, ItD.di hx' (lkp_mem nd mem), Sum.inl e.1, rfl, put_same, by rw [List.length_map, List.length_take]; omega, ?_, by rw [put_put], rfl⟩
      have nds : ((sK ks).map (·.1)).Nodup := ((sK_perm ks).map _).nodup_iff.mpr nd
      rw [List.take_succ, he, putP_new]
      · simp [eK]
      · intro q hq
        obtain ⟨a, ha, rfl⟩ := List.mem_map.mp hq
        intro z
        have z : a.1 = e.1 := Sum.inl.inj z
        obtain ⟨j, hj⟩ := List.mem_iff_getElem?.mp ha
        rw [List.getElem?_take] at hj
        split at hj
        · next lt =>
          have i1 : ((sK ks).map (·.1))[j]? = some e.1 := by rw [List.getElem?_map, hj, ← z]; rfl
          have i2 : ((sK ks).map (·.1))[i]? = some e.1 := by rw [List.getElem?_map, he]; rfl
          have := (List.getElem?_inj (List.getElem?_eq_some_iff.mp i1).1 nds).mp (i1.trans i2.symm)
          omega
        · cases hj
  · rintro acc N1 t1 ⟨rfl, rfl, rfl⟩
    rw [List.length_map, List.length_map, List.take_length]
    exact hP p np
/-! the class -/
abbrev sInit : Stmt := inClass (top 2) 0
theorem scInit : FnScope ["self", "name", "params", "rows", "lands", "closes"] ["self", "name", "params", "rows", "lands", "closes"] (defScope sInit) := ⟨rfl, rfl, rfl, by decide +kernel, rfl, by decide +kernel, by decide +kernel⟩
def tabF (name params : D) (rows : List D) (p1 p2 : Addr) : List (Str × D) := [("name", name), ("params", params), ("rows", .tup rows), ("lands", .ref p1), ("closes", .ref p2)]
theorem nn_ne' {N : NN} {a q C : Addr} {ks : List (Key × D)} {fs : List (Str × D)} (h : N a = some (.dk ks)) (k : N q = some (.ins C fs)) : a ≠ q := fun e => by rw [e, k] at h; cases h
/-- None, or a dict -/
def OptD (N : NN) (x : D) (ks : List (Int × D)) : Prop := (x = .non ∧ ks = []) ∨ (x ≠ .non ∧ DV N x (ks.map eK))
def spInit (C : Addr) : PreD τ := fun ds N t P => ∃ (q : Addr) (name params rows lands closes : D) (xs : List D) (k1 k2 : List (Int × D)), ds = [.ref q, name, params, rows, lands, closes] ∧ N q = some (.ins C []) ∧ (LV N rows xs ∨ rows = .tup xs) ∧
  OptD N lands k1 ∧ OptD N closes k2 ∧ (k1.map (·.1)).Nodup ∧ (k2.map (·.1)).Nodup ∧ k1.length < 64 ∧ k2.length < 64 ∧
  ∀ p1 p2 N', N p1 = none → N p2 = none → p1 ≠ p2 → (∀ a d, N a = some d → a ≠ q → N' a = some d) → N' q = some (.ins C (tabF name params xs p1 p2)) → N' p1 = some (.dk ((sK k1).map eK)) → N' p2 = some (.dk ((sK k2).map eK)) → P .non N' t
structure TabC (K : PySem.W.Frag) (C : Addr) : Prop where
  cls : Cls K C
  n1 : NoAttr K C "name"
  n2 : NoAttr K C "params"
  n3 : NoAttr K C "rows"
  n4 : NoAttr K C "lands"
  n5 : NoAttr K C "closes"
theorem LV.put {N : NN} {x : D} {xs : List D} {p : Addr} {d d' : D} (h : LV N x xs) (hp : N p = some d) (hd : ∀ ys, d ≠ .lst ys) : LV (Y.put N p d') x xs := by
  rcases h with h | ⟨q, h, hq⟩
  · exact .inl h
  · refine .inr ⟨q, h, ?_⟩
    rw [put_ne (fun z => by rw [z, hp] at hq; exact hd _ (Option.some.inj hq))]
    exact hq
theorem DV.put {N : NN} {x : D} {xs : List (Key × D)} {p : Addr} {d' : D} (h : DV N x xs) (hp : ∀ ys, N p ≠ some (.dk ys)) : DV (Y.put N p d') x xs := by
  rcases h with h | ⟨q, h, hq⟩
  · exact .inl h
  · refine .inr ⟨q, h, ?_⟩
    rw [put_ne (fun z => hp xs (by rw [← z]; exact hq))]
    exact hq
theorem OptD.put {N : NN} {x : D} {xs : List (Int × D)} {p : Addr} {d' : D} (h : OptD N x xs) (hp : ∀ ys, N p ≠ some (.dk ys)) : OptD (Y.put N p d') x xs := by
  rcases h with h | ⟨h1, h2⟩
  · exact .inl h
  · exact .inr ⟨h1, DV.put h2 hp⟩
theorem optDk {N : NN} {q : Addr} {C : Addr} {fs : List (Str × D)} (h : N q = some (.ins C fs)) : ∀ ys, N q ≠ some (.dk ys) := fun ys e => by rw [h] at e; cases e
/-- {} if x is None else x -/
theorem ev_opt {X : Cx} {env : EnvD} {N : NN} {t : τ} {P : D → NN → τ → Prop} {i j : Nat} {x : Str} {d : D} {ks : List (Int × D)} {p1 p2 p3 p4 p5 pos : Pos} (hd : env[i]? = some (some d)) (ho : OptD N d ks) (hP : ∀ y, DV N y (ks.map eK) → P y N t)
    (hN : X.N[i]? = some x := by rfl) (hv : Vis X.env.scope x := by first | exact Or.inl rfl | exact Or.inr (Or.inl rfl) | exact Or.inr (Or.inr rfl)) (hdb : (x == ("__debug__" : Str)) = false := by decide) (hcd : (x == ("__classdict__" : Str)) = false := by decide) :
    EvE J X (.IfExp (.Compare (.Name x p1) [.Is] [.Constant .none j p2] p3) (.Dict [] [] p4) (.Name x p5) pos) env N t P := by
  rcases ho with ⟨rfl, rfl⟩ | ⟨ne, dv⟩
  · refine ev_if (et_cmp (ev_name (i := i) hd (ev_non (od_isN (b := true) (.inl ⟨rfl, rfl⟩) ⟨_, rfl, fun _ => ?_, fun h => Bool.noConfusion h⟩)) hN hv hdb hcd) (by first | exact nomark _ | with_unfolding_all rfl))
    refine ev_frz (ev_dictN fun p hp => ⟨p, _, rfl, put_same, ?_⟩)
    rw [del_put hp]
    exact hP _ .i
  · refine ev_if (et_cmp (ev_name (i := i) hd (ev_non (od_isN (b := false) (.inr ⟨ne, rfl⟩) ⟨_, rfl, fun h => Bool.noConfusion h, fun _ => ?_⟩)) hN hv hdb hcd) (by first | exact nomark _ | with_unfolding_all rfl))
    exact ev_name (i := i) hd (hP _ dv) hN hv hdb hcd
theorem ok_init {C fB : Addr} {fdB : FuncData} {f : Addr} {fd : FuncData} {kws : List (Str × V)} (F : FunD K "__init__" "Table.__init__" (defArgs sInit) (defBody sInit) (defScope sInit) [] kws f fd) (T : TabC K C) (gT : mg "tuple" = none)
    (GB : FnG P w K mg base CX0 1 fB fdB ["told"] (Fsp J K spBy)) (gB : mg "by_keys" = some (.ref fB)) (kB : PySem.W.keepIn K (.ref fB) = true) (bB : Binds K fdB ["told"] []) :
    FnG P w K mg base CX0 2 f fd ["self", "name", "params", "rows", "lands", "closes"] (Fsp J K (spInit C)) := by
  refine fn_ok F scInit (fun ds N t P h => ?_) fun cdv A outer s H E ds N t P hr h => ?_
  · obtain ⟨q, _, _, _, _, _, _, _, _, rfl, _⟩ := h
    rfl
  obtain ⟨q, name, params, rows, lands, closes, xs, k1, k2, rfl, hq, hrow, hl1, hl2, nd1, nd2, le1, le2, hP⟩ := h
  have hu := hr.units
  refine ss_cons (st_fld (ev_name (i := 1) rfl (ev_name (i := 0) rfl (?_))))
  refine ⟨q, C, [], rfl, hq, T.cls, T.n1, by decide, ?_⟩
  refine ss_cons (st_fld (ev_name (i := 2) rfl (ev_name (i := 0) rfl (?_))))
  refine ⟨q, C, _, rfl, put_same, T.cls, T.n2, Nat.lt_of_succ_le (Nat.le_of_ble_eq_true rfl), ?_⟩
  rw [put_put]
  refine ss_cons (st_fld (ev_callTy gT boot_tuple (ea_cons (ev_name (i := 3) rfl (ea_nil (?_))))))
  refine cd_tuple (xs := xs) (hrow.imp (fun h => LV.put h hq fun ys e => by cases e) id) ?_
  refine ev_name (i := 0) rfl (?_)
  refine ⟨q, C, _, rfl, put_same, T.cls, T.n3, Nat.lt_of_succ_le (Nat.le_of_ble_eq_true rfl), ?_⟩
  rw [put_put]
  refine ss_cons (st_fld (ev_call GB (hr.less (by decide)) gB kB bB (ea_cons (ev_opt (i := 4) rfl (OptD.put hl1 (optDk hq)) fun y hy => ea_nil (?_)))))
  refine ⟨y, k1, rfl, hy, nd1, le1, fun p1 f1 => ?_⟩
  obtain ⟨ne1, f1⟩ := put_none f1
  refine ev_name (i := 0) rfl (?_)
  refine ⟨q, C, _, rfl, (put_ne ne1.symm).trans put_same, T.cls, T.n4, Nat.lt_of_succ_le (Nat.le_of_ble_eq_true rfl), ?_⟩
  have hl2' : ∀ f1 f2, OptD (put (put (put N q f1) p1 (.dk ((sK k1).map eK))) q f2) closes k2 := fun g1 g2 => by
    rcases hl2 with h | ⟨h, h' | ⟨a, h1, h2⟩⟩
    · exact .inl h
    · exact .inr ⟨h, .inl h'⟩
    · refine .inr ⟨h, .inr ⟨a, h1, ?_⟩⟩
      have n1 : a ≠ q := nn_ne' h2 hq
      rw [put_ne n1, put_ne (nn_ne h2 f1), put_ne n1]
      exact h2
  refine ss_cons (st_fld (ev_call GB (hr.less (by decide)) gB kB bB (ea_cons (ev_opt (i := 5) rfl (hl2' _ _) fun y hy => ea_nil (?_)))))
  refine ⟨y, k2, rfl, hy, nd2, le2, fun p2 f2 => ?_⟩
  obtain ⟨a1, f2⟩ := put_none f2
  obtain ⟨a2, f2⟩ := put_none f2
  obtain ⟨_, f2⟩ := put_none f2
  refine ev_name (i := 0) rfl (?_)
  refine ⟨q, C, _, rfl, (put_ne a1.symm).trans put_same, T.cls, T.n5, Nat.lt_of_succ_le (Nat.le_of_ble_eq_true rfl), ?_⟩
  refine ss_nil (hP p1 p2 _ f1 f2 (Ne.symm a2) (fun a d ha hne => ?_) put_same ?_ ?_)
  · rw [put_ne hne, put_ne (nn_ne ha f2), put_ne hne, put_ne (nn_ne ha f1), put_ne hne]
    exact ha
  · rw [put_ne ne1, put_ne (Ne.symm a2), put_ne ne1, put_same]
  · rw [put_ne a1, put_same]
/-! the own == -/
abbrev sEq : Stmt := inClass (top 2) 1
theorem scEq : FnScope ["self", "other"] ["self", "other"] (defScope sEq) := ⟨rfl, rfl, rfl, by decide +kernel, rfl, by decide +kernel, by decide +kernel⟩
/-- a table as it lies: its parts, its dicts -/
structure TabAt (N : NN) (C : Addr) (x : D) (name params : D) (rows : List D) (k1 k2 : List (Int × D)) : Prop where
  at_ : ∃ q p1 p2, x = .ref q ∧ N q = some (.ins C (tabF name params rows p1 p2)) ∧ N p1 = some (.dk (k1.map eK)) ∧ N p2 = some (.dk (k2.map eK))
  n1 : (k1.map (·.1)).Nodup
  n2 : (k2.map (·.1)).Nodup
  p0 : puD name = true ∧ depD name ≤ 5
  p1 : puD params = true ∧ depD params ≤ 5
  p2 : puD (.tup rows) = true ∧ depD (.tup rows) ≤ 5
  v1 : ∀ e ∈ k1, puD e.2 = true ∧ depD e.2 ≤ 5
  v2 : ∀ e ∈ k2, puD e.2 = true ∧ depD e.2 ≤ 5
theorem TabAt.le {N N' : NN} {C : Addr} {x name params : D} {rows : List D} {k1 k2 : List (Int × D)} (h : TabAt N C x name params rows k1 k2) (l : NLe N N') : TabAt N' C x name params rows k1 k2 := by
  obtain ⟨q, p1, p2, e, a, b, c⟩ := h.at_
  exact { h with at_ := ⟨q, p1, p2, e, l _ _ a, l _ _ b, l _ _ c⟩ }
def spEqT (K : PySem.W.Frag) (C : Addr) : PreD τ := fun ds N t P => ∃ x y name params rows k1 k2, ds = [x, y] ∧ TabAt N C x name params rows k1 k2 ∧
  ((∃ name' params' rows' k1' k2', TabAt N C y name' params' rows' k1' k2' ∧ ∀ b : Bool, (b = true ↔ name = name' ∧ params = params' ∧ rows = rows' ∧ k1.Perm k1' ∧ k2.Perm k2') → P (.bl b) N t) ∨
   (∃ ty, TyDx K N y ty ∧ PySem.W.kitOne K ty (.ref C) = some false ∧ P (.bl false) N t))
theorem kit_self {C : Addr} : PySem.W.kitOne K (.ref C) (.ref C) = some true := by
  unfold PySem.W.kitOne
  rw [if_pos (by simp)]
theorem lk_name {N1 N2 : D} {r : List D} {p1 p2 : Addr} : (tabF N1 N2 r p1 p2).lookup ("name" : Str) = some N1 := rfl
theorem lk_params {N1 N2 : D} {r : List D} {p1 p2 : Addr} : (tabF N1 N2 r p1 p2).lookup ("params" : Str) = some N2 := rfl
theorem lk_rows {N1 N2 : D} {r : List D} {p1 p2 : Addr} : (tabF N1 N2 r p1 p2).lookup ("rows" : Str) = some (.tup r) := rfl
theorem lk_lands {N1 N2 : D} {r : List D} {p1 p2 : Addr} : (tabF N1 N2 r p1 p2).lookup ("lands" : Str) = some (.ref p1) := rfl
theorem lk_closes {N1 N2 : D} {r : List D} {p1 p2 : Addr} : (tabF N1 N2 r p1 p2).lookup ("closes" : Str) = some (.ref p2) := rfl
theorem ok_eq {C : Addr} {f : Addr} {fd : FuncData} (F : FunD K "__eq__" "Table.__eq__" (defArgs sEq) (defBody sEq) (defScope sEq) [] [] f fd) (T : TabC K C) (IC : InsC K C) (gI : mg "isinstance" = none) (gC : mg "Table" = some (.ref C)) :
    FnG P w K mg base CX0 1 f fd ["self", "other"] (Fsp J K (spEqT K C)) := by
  refine fn_ok F scEq (fun ds N t P h => ?_) fun cdv A outer s H E ds N t P hr h => ?_
  · obtain ⟨x, y, _, _, _, _, _, rfl, _⟩ := h
    rfl
  obtain ⟨x, y, name, params, rows, k1, k2, rfl, ha, hy⟩ := h
  have hu := hr.units
  obtain ⟨q, p1, p2, rfl, hq, h1, h2⟩ := ha.at_
  refine ss_cons (st_if (et_w (ew_or (et_not (et_val (ev_callB gI boot_isinstance (ea_cons (ev_name (i := 1) rfl (ea_cons (ev_cls gC (ea_nil (?_))))))))))))
  rcases hy with ⟨name', params', rows', k1', k2', hb, hP⟩ | ⟨ty, hty, hk, hP⟩
  · obtain ⟨q', p1', p2', rfl, hq', h1', h2'⟩ := hb.at_
    refine cd_isi (.ins (.o hq') IC) kit_self ⟨_, rfl, fun _ => ?_, fun h => Bool.noConfusion h⟩
    refine ew_one (et_cmp (ev_tup (ea_cons (ev_fld (ev_name (i := 0) rfl (?_))))))
    refine ⟨_, _, _, .o hq, T.cls, T.n1, lk_name, ?_⟩
    refine ea_cons (ev_fld (ev_name (i := 0) rfl (?_)))
    refine ⟨_, _, _, .o hq, T.cls, T.n2, lk_params, ?_⟩
    refine ea_nil (⟨Nat.le_of_ble_eq_true rfl, ev_tup (ea_cons (ev_fld (ev_name (i := 1) rfl (?_))))⟩)
    refine ⟨_, _, _, .o hq', T.cls, T.n1, lk_name, ?_⟩
    refine ea_cons (ev_fld (ev_name (i := 1) rfl (?_)))
    refine ⟨_, _, _, .o hq', T.cls, T.n2, lk_params, ?_⟩
    refine ea_nil (⟨Nat.le_of_ble_eq_true rfl, ?_⟩)
    obtain ⟨c, ec, ic⟩ := eqF_tells (N := N) 6 (.tup [name, params]) (.tup [name', params']) (puDs_of (by simp [ha.p0.1, ha.p1.1])) (puDs_of (by simp [hb.p0.1, hb.p1.1])) (Nat.succ_le_succ (depDs_le (by simp [ha.p0.2, ha.p1.2]))) (Nat.succ_le_succ (depDs_le (by simp [hb.p0.2, hb.p1.2])))
    refine od_ne 6 hu (by decide) ec (fun _ _ h => by cases h) ?_
    refine ⟨_, rfl, fun hT => ?_, fun hT => ?_⟩
    · have hc : c = false := by simpa using hT
      subst hc
      refine ss_cons (st_ret (ev_bl (hP false ?_)))
      constructor
      · intro h; cases h
      · rintro ⟨rfl, rfl, _⟩
        exact absurd (ic.mpr rfl) (by decide)
    · have hc : c = true := by simpa using hT
      subst hc
      have e := ic.mp rfl
      simp only [D.tup.injEq, List.cons.injEq, and_true] at e
      obtain ⟨rfl, rfl⟩ := e
      refine ss_nil (ss_cons (st_ret (ev_cmp (ev_tup (ea_cons (ev_fld (ev_name (i := 0) rfl (?_))))))))
      refine ⟨_, _, _, .o hq, T.cls, T.n3, lk_rows, ?_⟩
      refine ea_cons (ev_fld (ev_name (i := 0) rfl (?_)))
      refine ⟨_, _, _, .o hq, T.cls, T.n4, lk_lands, ?_⟩
      refine ea_cons (ev_fld (ev_name (i := 0) rfl (?_)))
      refine ⟨_, _, _, .o hq, T.cls, T.n5, lk_closes, ?_⟩
      refine ea_nil (⟨Nat.le_of_ble_eq_true rfl, ev_tup (ea_cons (ev_fld (ev_name (i := 1) rfl (?_))))⟩)
      refine ⟨_, _, _, .o hq', T.cls, T.n3, lk_rows, ?_⟩
      refine ea_cons (ev_fld (ev_name (i := 1) rfl (?_)))
      refine ⟨_, _, _, .o hq', T.cls, T.n4, lk_lands, ?_⟩
      refine ea_cons (ev_fld (ev_name (i := 1) rfl (?_)))
      refine ⟨_, _, _, .o hq', T.cls, T.n5, lk_closes, ?_⟩
      refine ea_nil (⟨Nat.le_of_ble_eq_true rfl, ?_⟩)
      obtain ⟨c1, e1, i1⟩ := eqF_tells (N := N) 6 (.tup rows) (.tup rows') ha.p2.1 hb.p2.1 (Nat.le_succ_of_le ha.p2.2) (Nat.le_succ_of_le hb.p2.2)
      have vv : ∀ {ks : List (Int × D)}, (∀ e ∈ ks, puD e.2 = true ∧ depD e.2 ≤ 5) → ∀ e ∈ ks.map eK, puD e.2 = true ∧ depD e.2 ≤ 5 := fun h e he => by
        obtain ⟨a, ha, rfl⟩ := List.mem_map.mp he
        exact h a ha
      obtain ⟨c2, e2, i2⟩ := eqF_dicts (n := 5) h1 h1' (vv ha.v1) (vv hb.v1)
      obtain ⟨c3, e3, i3⟩ := eqF_dicts (n := 5) h2 h2' (vv ha.v2) (vv hb.v2)
      rw [same_dict ha.n1 hb.n1] at i2
      rw [same_dict ha.n2 hb.n2] at i3
      refine od_eq 7 hu (by decide) (b := c1 && (c2 && (c3 && true))) ?_ (hP _ ?_)
      · show eqL (eqF N 7) [.tup rows, .ref p1, .ref p2] [.tup rows', .ref p1', .ref p2'] = _
        unfold eqL
        rw [e1]
        unfold eqL
        rw [e2]
        unfold eqL
        rw [e3]
        rfl
      · rw [Bool.and_eq_true, Bool.and_eq_true, Bool.and_true, i1, i2, i3, D.tup.injEq]
        simp
  · refine cd_isi hty hk ⟨_, rfl, fun h => Bool.noConfusion h, fun _ => ?_⟩
    exact ⟨fun _ => ss_cons (st_ret (ev_bl hP)), fun h => Bool.noConfusion h⟩
end
end K26
namespace K26
open PySem PySem.Spec PyProof.Rows L2 Y
section
variable {P : Program} {w : World} {K : PySem.W.Frag} {mg : Str → Option Value} {base : Heap}
abbrev JS (K : PySem.W.Frag) : Tau → Hp → Prop := Jof K phi
abbrev Fn (P : Program) (w : World) (K : PySem.W.Frag) (mg : Str → Option Value) (base : Heap) (k : Nat) (x : Str) (ps : List Str) (pre : PreD Tau) : Prop := FnAt P w K mg base k x ps (Fsp (JS K) K pre)
/-! one of some -/
abbrev sPick : Stmt := top 6
theorem scPick : FnScope ["state", "some"] ["state", "some"] (defScope sPick) := ⟨rfl, rfl, rfl, by decide +kernel, rfl, by decide +kernel, by decide +kernel⟩
def spPick : PreD Tau := fun ds N t P => ∃ (d : Addr) (n : Nat) (x : D) (xs : List D), ds = [.ref d, x] ∧ t = some (d, n) ∧ n < 1000000 ∧ LV N x xs ∧ 1 ≤ xs.length ∧ xs.length < 1000 ∧ ∀ z ∈ xs, P z N (some (d, n + 1))
theorem atI_mem {α : Type} {xs : List α} {r : Int} (h0 : 0 ≤ r) (h1 : r < xs.length) : ∃ z, atI xs r = some z ∧ z ∈ xs := by
  have lt : r.toNat < xs.length := by omega
  refine ⟨xs[r.toNat], ?_, List.getElem_mem lt⟩
  unfold atI ixN
  have e : ¬ r < 0 := by omega
  simp [e, lt, h0, h1]
theorem ok_pick (G : Fn P w K mg base 1 "_law_take" ["state", "many"] spTake) (gL : mg "len" = none) {f : Addr} {fd : FuncData} (F : FnP K "_law_pick" sPick f fd) : FnG P w K mg base CX0 2 f fd ["state", "some"] (Fsp (JS K) K spPick) := by
  refine fn_ok F scPick (fun ds N t P h => ?_) fun cdv A outer s H E ds N t P hr h => ?_
  · obtain ⟨d, n, x, xs, rfl, _⟩ := h
    rfl
  obtain ⟨d, n, x, xs, rfl, rfl, hn, hx, h1, h2, hP⟩ := h
  have hu := hr.units
  refine ss_cons (st_ret (ev_item hu (ev_name (i := 1) rfl (ev_fn G hr (by decide) (ea_cons (ev_name (i := 0) rfl (ea_cons (ev_callB gL boot_len (ea_cons (ev_name (i := 1) rfl (ea_nil (?_))))))))))))
  refine cd_len (.inl hx) (ea_nil ?_)
  refine ⟨d, xs.length, n, rfl, rfl, by omega, by omega, hn, fun r r0 r1 => ?_⟩
  obtain ⟨z, hz, mem⟩ := atI_mem r0 r1
  exact ⟨z, .l hx hz, hP z mem⟩
/-! a row -/
abbrev sRow : Stmt := top 7
theorem scRow : FnScope ["state", "many", "to", "b", "some"] ["state", "many"] (defScope sRow) := ⟨rfl, rfl, rfl, by decide +kernel, rfl, by decide +kernel, by decide +kernel⟩
abbrev T1 (a : D) : D := .tup [a]
abbrev T2 (a b : D) : D := .tup [a, b]
abbrev T3 (a b c : D) : D := .tup [a, b, c]
abbrev T4 (a b c d : D) : D := .tup [a, b, c, d]
abbrev S (s : Str) : D := .str s
def rowsOf (to : Int) (b : D) : List D := [T4 (S "set") b (T2 (S "box") (S "a")) (.int to), T3 (S "say") (T1 (S "none")) (.int to), T4 (S "if") (T2 (S "box") b) (.int to) (.int 0), T1 (S "end")] ++
  [T4 (S "give") b (T2 (S "number") (.int 3)) (.int to), T4 (S "all") b (T2 (S "box") (S "a")) (.int to), T2 (S "throw") (T2 (S "box") b)] ++ [T2 (S "return") (T1 (S "none"))]
def boxesD : List D := [S "a", S "b", S "1", S "z9"]
def RowOk (r : D) : Prop := ∃ to b, 0 ≤ to ∧ to < 1000 ∧ b ∈ boxesD ∧ r ∈ rowsOf to b
def spRow : PreD Tau := fun ds N t P => ∃ (d : Addr) (n : Nat) (m : Int), ds = [.ref d, .int m] ∧ t = some (d, n) ∧ n + 3 < 1000000 ∧ 1 ≤ m ∧ m < 1000 ∧ ∀ r, RowOk r → P r N (some (d, n + 3))
theorem ok_row (G : Fn P w K mg base 1 "_law_take" ["state", "many"] spTake) (GP : Fn P w K mg base 2 "_law_pick" ["state", "some"] spPick) {f : Addr} {fd : FuncData} (F : FnP K "_law_row" sRow f fd) : FnG P w K mg base CX0 3 f fd ["state", "many"] (Fsp (JS K) K spRow) := by
  refine fn_ok F scRow (fun ds N t P h => ?_) fun cdv A outer s H E ds N t P hr h => ?_
  · obtain ⟨d, n, m, rfl, _⟩ := h
    rfl
  obtain ⟨d, n, m, rfl, rfl, hn, h1, h2, hP⟩ := h
  have hu := hr.units
  refine ss_cons (st_par (i := 2) (j := 3) rfl scRow.nd (ea_cons (ev_fn G hr (by decide) (ea_cons (ev_name (i := 0) rfl (ea_cons (ev_name (i := 1) rfl (ea_nil (?_)))))))))
  refine ⟨d, m, n, rfl, rfl, h1, by omega, by omega, fun r r0 r1 => ?_⟩
  refine ea_cons (ev_fn GP hr (by decide) (ea_cons (ev_name (i := 0) rfl (ea_cons (ev_lst (ea_cons (ev_str (ea_cons (ev_str (ea_cons (ev_str (ea_cons (ev_str (ea_nil (⟨Nat.le_of_ble_eq_true rfl, ea_nil (?_)⟩)))))))))))))))
  refine ⟨d, n + 1, _, boxesD, rfl, rfl, by omega, .i, by decide, by decide, fun b hb => ?_⟩
  refine ea_nil (⟨_, _, rfl, ?_⟩)
  refine ss_cons (st_set 4 scRow.nd (ev_lst (ea_cons (ev_tup (ea_cons (ev_str (ea_cons (ev_name (i := 3) rfl (ea_cons (ev_tup (ea_cons (ev_str (ea_cons (ev_str (ea_nil (⟨Nat.le_of_ble_eq_true rfl, ea_cons (ev_name (i := 2) rfl (ea_nil (⟨Nat.le_of_ble_eq_true rfl, ea_cons (ev_tup (ea_cons (ev_str (ea_cons (ev_tup (ea_cons (ev_str (ea_nil (⟨Nat.le_of_ble_eq_true rfl, ea_cons (ev_name (i := 2) rfl (ea_nil (⟨Nat.le_of_ble_eq_true rfl, ea_cons (ev_tup (ea_cons (ev_str (ea_cons (ev_tup (ea_cons (ev_str (ea_cons (ev_name (i := 3) rfl (ea_nil (⟨Nat.le_of_ble_eq_true rfl, ea_cons (ev_name (i := 2) rfl (ea_cons (ev_int (ea_nil (⟨Nat.le_of_ble_eq_true rfl, ea_cons (ev_tup (ea_cons (ev_str (ea_nil (⟨Nat.le_of_ble_eq_true rfl, ea_nil (⟨Nat.le_of_ble_eq_true rfl, ?_⟩)⟩)))))⟩)))))⟩)))))))))))⟩)))⟩)))))))))⟩)))⟩))))))))))))))))
  refine ss_cons (st_set 4 scRow.nd (ev_bin (ev_name (i := 4) rfl (ev_lst (ea_cons (ev_tup (ea_cons (ev_str (ea_cons (ev_name (i := 3) rfl (ea_cons (ev_tup (ea_cons (ev_str (ea_cons (ev_int (ea_nil (⟨Nat.le_of_ble_eq_true rfl, ea_cons (ev_name (i := 2) rfl (ea_nil (⟨Nat.le_of_ble_eq_true rfl, ea_cons (ev_tup (ea_cons (ev_str (ea_cons (ev_name (i := 3) rfl (ea_cons (ev_tup (ea_cons (ev_str (ea_cons (ev_str (ea_nil (⟨Nat.le_of_ble_eq_true rfl, ea_cons (ev_name (i := 2) rfl (ea_nil (⟨Nat.le_of_ble_eq_true rfl, ea_cons (ev_tup (ea_cons (ev_str (ea_cons (ev_tup (ea_cons (ev_str (ea_cons (ev_name (i := 3) rfl (ea_nil (⟨Nat.le_of_ble_eq_true rfl, ea_nil (⟨Nat.le_of_ble_eq_true rfl, ea_nil (⟨Nat.le_of_ble_eq_true rfl, ?_⟩)⟩)⟩)))))))))))⟩)))⟩)))))))))))))⟩)))⟩))))))))))))))))))
  refine od_cat .i .i (Nat.le_of_ble_eq_true rfl) ?_
  refine ss_cons (st_ret (ev_fn GP hr (by decide) (ea_cons (ev_name (i := 0) rfl (ea_cons (ev_bin (ev_name (i := 4) rfl (ev_lst (ea_cons (ev_tup (ea_cons (ev_str (ea_cons (ev_tup (ea_cons (ev_str (ea_nil (⟨Nat.le_of_ble_eq_true rfl, ea_nil (⟨Nat.le_of_ble_eq_true rfl, ea_nil (⟨Nat.le_of_ble_eq_true rfl, ?_⟩)⟩)⟩))))))))))))))))))
  refine od_cat .i .i (Nat.le_of_ble_eq_true rfl) ?_
  refine ea_nil (?_)
  refine ⟨d, n + 2, _, rowsOf r b, rfl, rfl, by omega, .i, Nat.le_of_ble_eq_true rfl, Nat.le_of_ble_eq_true rfl, fun z hz => ?_⟩
  exact hP z ⟨r, b, r0, by omega, hb, hz⟩
end
end K26
namespace K26
open PySem PySem.Spec PyProof.Rows L2 Y
section
variable {P : Program} {w : World} {K : PySem.W.Frag} {mg : Str → Option Value} {base : Heap}
abbrev sOther : Stmt := top 8
theorem sc_Other : FnScope ["state", "parts", "word", "heads", "lines", "falls", "ends", "way", "at", "more"] ["state", "parts"] (defScope sOther) := ⟨rfl, rfl, rfl, by decide +kernel, rfl, by decide +kernel, by decide +kernel⟩
/-- parts of a table that may be told -/
structure GoodP (heads lines : List D) (k1 k2 : List (Int × D)) : Prop where
  hl : heads.length ≤ 10
  hh : ∀ h ∈ heads, puD h = true ∧ depD h = 0
  ll : lines.length ≤ 100
  lr : ∀ r ∈ lines, puD r = true ∧ depD r ≤ 3
  n1 : (k1.map (·.1)).Nodup
  n2 : (k2.map (·.1)).Nodup
  l1 : k1.length < 60
  l2 : k2.length < 60
  v1 : ∀ e ∈ k1, puD e.2 = true ∧ depD e.2 ≤ 2
  v2 : ∀ e ∈ k2, puD e.2 = true ∧ depD e.2 ≤ 2
theorem put_int {v : D} : ∀ (ks : List (Int × D)) (a : Int), (ks.map (·.1)).Nodup → ∃ ls : List (Int × D), putP (ks.map eK) (Sum.inl a) v = ls.map eK ∧ (ls.map (·.1)).Nodup ∧ ls.length ≤ ks.length + 1 ∧ (a, v) ∈ ls ∧ ∀ e ∈ ls, e = (a, v) ∨ e ∈ ks
  | ks, a, nd => by
    by_cases h : a ∈ ks.map (·.1)
    · refine ⟨ks.map fun e => if e.1 = a then (a, v) else e, ?_, ?_, by simp, ?_, ?_⟩
      · unfold putP
        rw [if_pos, List.map_map, List.map_map]
        · refine List.map_congr_left fun e _ => ?_
          show (if (Sum.inl e.1 : Key) = Sum.inl a then ((Sum.inl e.1 : Key), v) else eK e) = eK (if e.1 = a then (a, v) else e)
          by_cases z : e.1 = a
          · rw [if_pos (by rw [z]), if_pos z]; simp [eK, z]
          · rw [if_neg (fun q => z (Sum.inl.inj q)), if_neg z]
        · obtain ⟨e, he, rfl⟩ := List.mem_map.mp h
          exact List.any_eq_true.mpr ⟨eK e, List.mem_map_of_mem he, by simp [eK]⟩
      · rw [List.map_map]
        have : ((fun e : Int × D => e.1) ∘ fun e => if e.1 = a then (a, v) else e) = fun e : Int × D => e.1 := by
          funext e
          show (if e.1 = a then (a, v) else e).1 = e.1
          by_cases z : e.1 = a
          · rw [if_pos z]; exact z.symm
          · rw [if_neg z]
        rw [this]; exact nd
      · obtain ⟨e, he, ea⟩ := List.mem_map.mp h
        exact List.mem_map.mpr ⟨e, he, by rw [if_pos ea]⟩
      · intro e he
        obtain ⟨b, hb, rfl⟩ := List.mem_map.mp he
        by_cases z : b.1 = a
        · rw [if_pos z]; exact .inl rfl
        · rw [if_neg z]; exact .inr hb
    · refine ⟨ks ++ [(a, v)], ?_, ?_, by simp, by simp, ?_⟩
      · rw [putP_new, List.map_append]; rfl
        intro p hp
        obtain ⟨e, he, rfl⟩ := List.mem_map.mp hp
        exact fun z => h (List.mem_map.mpr ⟨e, he, Sum.inl.inj z⟩)
      · rw [List.map_append, List.nodup_append]
        refine ⟨nd, by simp, fun x hx y hy e => ?_⟩
        simp only [List.map_cons, List.map_nil, List.mem_singleton] at hy
        exact h (by rw [← hy, ← e]; exact hx)
      · intro e he
        rcases List.mem_append.mp he with h | h
        · exact .inr h
        · exact .inl (List.mem_singleton.mp h)
theorem bx_pu {b : D} (h : b ∈ boxesD) : puD b = true ∧ depD b = 0 := by
  simp only [boxesD, List.mem_cons, List.not_mem_nil, or_false] at h
  rcases h with rfl | rfl | rfl | rfl <;> exact ⟨rfl, rfl⟩
theorem row_pu {r : D} (h : RowOk r) : puD r = true ∧ depD r ≤ 3 := by
  obtain ⟨to, b, _, _, hb, hr⟩ := h
  obtain ⟨pb, db⟩ := bx_pu hb
  simp only [rowsOf, List.mem_append, List.mem_cons, List.not_mem_nil, or_false] at hr
  rcases hr with ((rfl | rfl | rfl | rfl) | rfl | rfl | rfl) | rfl <;> simp [puD, puDs, depD, depDs, pb, db]
abbrev row77 : D := T3 (S "say") (T2 (S "number") (.int 77)) (.int 0)
theorem row_77 {r : D} (h : RowOk r) : r ≠ row77 := by
  obtain ⟨to, b, _, _, hb, hr⟩ := h
  simp only [rowsOf, List.mem_append, List.mem_cons, List.not_mem_nil, or_false] at hr
  rcases hr with ((rfl | rfl | rfl | rfl) | rfl | rfl | rfl) | rfl <;> simp [row77, T1, T2, T3, T4]
abbrev partsD (word : Str) (heads lines : List D) (x y : D) : D := .tup [.str word, .tup heads, .lst lines, x, y]
def fallB : D := T2 (.int 0) (S "b")
/-- the parts that the law hands about -/
structure PartsAt (N : NN) (word : Str) (heads lines : List D) (pf pe : Addr) (k1 k2 : List (Int × D)) : Prop where
  good : GoodP heads lines k1 k2
  wl : word.length ≤ 100
  ln : 1 ≤ lines.length
  hs : heads.length ≤ 2
  ls : lines.length ≤ 50
  s1 : k1.length ≤ 50
  s2 : k2.length ≤ 50
  rs : ∀ r ∈ lines, RowOk r
  f1 : ∀ e ∈ k1, e.2 = fallB
  f2 : ∀ e ∈ k2, e.2 = .int e.1
  a1 : N pf = some (.dk (k1.map eK))
  a2 : N pe = some (.dk (k2.map eK))
theorem PartsAt.le {N N' : NN} {word : Str} {heads lines : List D} {pf pe : Addr} {k1 k2 : List (Int × D)} (h : PartsAt N word heads lines pf pe k1 k2) (l : NLe N N') : PartsAt N' word heads lines pf pe k1 k2 := { h with a1 := l _ _ h.a1, a2 := l _ _ h.a2 }
def spOther : PreD Tau := fun ds N t P => ∃ (d : Addr) (n : Nat) (word : Str) (heads lines : List D) (pf pe : Addr) (k1 k2 : List (Int × D)), ds = [.ref d, partsD word heads lines (.ref pf) (.ref pe)] ∧ t = some (d, n) ∧ n + 2 < 1000000 ∧ PartsAt N word heads lines pf pe k1 k2 ∧
  ∀ word' heads' lines' x y k1' k2' N', NLe N N' → GoodP heads' lines' k1' k2' → DV N' x (k1'.map eK) → DV N' y (k2'.map eK) → x ≠ .non → y ≠ .non → ¬(word = word' ∧ heads = heads' ∧ lines = lines' ∧ k1.Perm k1' ∧ k2.Perm k2') →
    P (partsD word' heads' lines' x y) N' (some (d, n + 2))
theorem app_ne {α : Type} {a : List α} {x : α} : ¬ a = a ++ [x] := fun e => by
  have := congrArg List.length e
  simp at this
theorem str_ne {a b : Str} (h : 0 < b.length) : ¬ a = a ++ b := fun e => by
  have := congrArg Str.length e
  rw [strLen_append] at this
  omega
theorem cut_take {α : Type} {xs : List α} {a : Nat} : Y.cutD xs none (some (a : Int)) = xs.take a := by
  unfold Y.cutD
  rw [HT.sIx_none, HT.sIx_nat, List.drop_zero, Nat.sub_zero]
  by_cases h : a ≤ xs.length
  · rw [Nat.min_eq_left h]
  · rw [Nat.min_eq_right (by omega), List.take_of_length_le (Nat.le_refl _), List.take_of_length_le (by omega)]
theorem cut_drop {α : Type} {xs : List α} {a : Nat} : Y.cutD xs (some ((a : Int) + 1)) none = xs.drop (a + 1) := by
  unfold Y.cutD
  rw [HT.sIx_none, show ((a : Int) + 1) = ((a + 1 : Nat) : Int) by omega, HT.sIx_nat]
  by_cases h : a + 1 ≤ xs.length
  · rw [Nat.min_eq_left h, List.take_of_length_le]
    rw [List.length_drop]; omega
  · rw [Nat.min_eq_right (by omega), List.drop_of_length_le (Nat.le_refl _), List.drop_of_length_le (by omega)]
    simp
theorem ok_other (GTake : Fn P w K mg base 1 "_law_take" ["state", "many"] spTake) (g_len : mg "len" = none) (g_dict : mg "dict" = none) {f : Addr} {fd : FuncData} (F : FnP K "_law_other" sOther f fd) : FnG P w K mg base CX0 2 f fd ["state", "parts"] (Fsp (JS K) K spOther) := by
  refine fn_ok F sc_Other (fun ds N t P h => ?_) fun cdv A outer s H E ds N t P hr h => ?_
  · obtain ⟨_, _, _, _, _, _, _, _, _, rfl, _⟩ := h
    rfl
  obtain ⟨d, n, word, heads, lines, pf, pe, k1, k2, rfl, rfl, hn, pa, hP⟩ := h
  have gd := pa.good
  have hu := hr.units
  refine ss_cons (st_asg (ev_name (i := 1) rfl (?_)))
  refine tg_row rfl TV.i ?_
  refine tg_name 2 sc_Other.nd ?_
  refine tg_name 3 sc_Other.nd ?_
  refine tg_name 4 sc_Other.nd ?_
  refine tg_name 5 sc_Other.nd ?_
  refine tg_name 6 sc_Other.nd ?_
  refine ss_cons (st_par (i := 7) (j := 8) rfl sc_Other.nd (ea_cons (ev_fn GTake hr (by decide) (ea_cons (ev_name (i := 0) rfl (ea_cons (ev_int (ea_nil (?_)))))))))
  refine ⟨d, 6, n, rfl, rfl, by decide, by decide, by omega, fun way w0 w1 => ?_⟩
  refine ea_cons (ev_fn GTake hr (by decide) (ea_cons (ev_name (i := 0) rfl (ea_cons (ev_callB g_len boot_len (ea_cons (ev_name (i := 4) rfl (ea_nil (?_)))))))))
  refine cd_len (.inl .i) (ea_nil ?_)
  have ln := pa.ln
  have ls := pa.ls
  refine ⟨d, lines.length, n + 1, rfl, rfl, by omega, by omega, by omega, fun at_ a0 a1 => ?_⟩
  obtain ⟨a, rfl⟩ : ∃ a : Nat, at_ = (a : Int) := ⟨at_.toNat, by omega⟩
  have al : a < lines.length := by omega
  have NN1 : ∀ q, D.ref q ≠ .non := fun q e => by cases e
  refine ea_nil (⟨_, _, rfl, ?_⟩)
  refine ss_cons (st_if (et_cmp (ev_name (i := 7) rfl (ev_int (?_)))))
  refine od_eqI hu ?_ -- Eq: way == 0
  refine ⟨_, rfl, ?_⟩
  refine ⟨fun hT => ?_, fun hT => ss_nil ?_⟩
  ·
    refine ss_cons (st_ret (ev_tup (ea_cons (ev_bin (ev_name (i := 2) rfl (ev_str (?_)))))))
    refine od_addS (by have := pa.wl; rw [sizeLine_eq]; show word.length + 1 ≤ _; omega) ?_
    refine ea_cons (ev_name (i := 3) rfl (ea_cons (ev_name (i := 4) rfl (ea_cons (ev_name (i := 5) rfl (ea_cons (ev_name (i := 6) rfl (ea_nil (⟨Nat.le_of_ble_eq_true rfl, ?_⟩)))))))))
    exact hP (word ++ _) heads lines _ _ k1 k2 N (NLe.refl N) gd (.o pa.a1) (.o pa.a2) (NN1 _) (NN1 _) fun h => str_ne (by decide) h.1
  refine ss_cons (st_if (et_cmp (ev_name (i := 7) rfl (ev_int (?_)))))
  refine od_eqI hu ?_ -- Eq: way == 1
  refine ⟨_, rfl, ?_⟩
  refine ⟨fun hT => ?_, fun hT => ss_nil ?_⟩
  ·
    refine ss_cons (st_ret (ev_tup (ea_cons (ev_name (i := 2) rfl (ea_cons (ev_bin (ev_name (i := 3) rfl (ev_tup (ea_cons (ev_str (ea_nil (⟨Nat.le_of_ble_eq_true rfl, ?_⟩))))))))))))
    refine od_catT rfl rfl (by have := pa.hs; show heads.length + 1 ≤ _; omega) ?_
    refine ea_cons (ev_name (i := 4) rfl (ea_cons (ev_name (i := 5) rfl (ea_cons (ev_name (i := 6) rfl (ea_nil (⟨Nat.le_of_ble_eq_true rfl, ?_⟩)))))))
    refine hP word (heads ++ [S "q"]) lines _ _ k1 k2 N (NLe.refl N) { gd with hl := ?_, hh := fun h hh => ?_ } (.o pa.a1) (.o pa.a2) (NN1 _) (NN1 _) fun h => app_ne h.2.1
    · have := pa.hs; rw [List.length_append]; show heads.length + 1 ≤ 10; omega
    · rcases List.mem_append.mp hh with q | q
      · exact gd.hh h q
      · rw [List.mem_singleton.mp q]; exact ⟨rfl, rfl⟩
  refine ss_cons (st_if (et_cmp (ev_name (i := 7) rfl (ev_int (?_)))))
  refine od_eqI hu ?_ -- Eq: way == 2
  refine ⟨_, rfl, ?_⟩
  refine ⟨fun hT => ?_, fun hT => ss_nil ?_⟩
  ·
    refine ss_cons (st_ret (ev_tup (ea_cons (ev_name (i := 2) rfl (ea_cons (ev_name (i := 3) rfl (ea_cons (ev_bin (ev_bin (ev_slice (ev_name (i := 4) rfl (ev_name (i := 8) rfl (⟨_, rfl, ?_⟩)))))))))))))
    refine ⟨_, .inl ⟨_, LV.i, rfl⟩, ?_⟩
    rw [cut_take]
    refine ev_lst (ea_cons (ev_tup (ea_cons (ev_str (ea_cons (ev_tup (ea_cons (ev_str (ea_cons (ev_int (ea_nil (⟨Nat.le_of_ble_eq_true rfl, ea_cons (ev_int (ea_nil (⟨Nat.le_of_ble_eq_true rfl, ea_nil (⟨Nat.le_of_ble_eq_true rfl, ?_⟩)⟩)))⟩))))))))))))
    refine od_cat .i .i (by rw [List.length_take]; show _ + 1 ≤ _; omega) ?_
    refine ev_slice (ev_name (i := 4) rfl (ev_bin (ev_name (i := 8) rfl (ev_int (?_)))))
    refine od_add ?_
    refine ⟨_, rfl, ?_⟩
    refine ⟨_, .inl ⟨_, LV.i, rfl⟩, ?_⟩
    rw [cut_drop]
    refine od_cat .i .i (by rw [List.length_append, List.length_take, List.length_drop]; show _ + 1 + _ ≤ _; omega) ?_
    refine ea_cons (ev_name (i := 5) rfl (ea_cons (ev_name (i := 6) rfl (ea_nil (⟨Nat.le_of_ble_eq_true rfl, ?_⟩)))))
    refine hP word heads (lines.take a ++ [row77] ++ lines.drop (a + 1)) _ _ k1 k2 N (NLe.refl N) { gd with ll := ?_, lr := fun r hr => ?_ } (.o pa.a1) (.o pa.a2) (NN1 _) (NN1 _) fun h => ?_
    · rw [List.length_append, List.length_append, List.length_take, List.length_drop]; show _ + 1 + _ ≤ 100; omega
    · rcases List.mem_append.mp hr with q | q
      · rcases List.mem_append.mp q with q | q
        · exact gd.lr r (List.mem_of_mem_take q)
        · rw [List.mem_singleton.mp q]; exact ⟨rfl, by decide⟩
      · exact gd.lr r (List.mem_of_mem_drop q)
    · have e : lines[a]? = some row77 := by
        rw [h.2.2.1, List.append_assoc, List.getElem?_append_right (by rw [List.length_take]; omega), List.length_take]
        rw [show a - min a lines.length = 0 by omega]; rfl
      exact row_77 (pa.rs _ (List.mem_of_getElem? e)) rfl
  refine ss_cons (st_if (et_cmp (ev_name (i := 7) rfl (ev_int (?_)))))
  refine od_eqI hu ?_ -- Eq: way == 3
  refine ⟨_, rfl, ?_⟩
  refine ⟨fun hT => ?_, fun hT => ss_nil ?_⟩
  ·
    refine ss_cons (st_ret (ev_tup (ea_cons (ev_name (i := 2) rfl (ea_cons (ev_name (i := 3) rfl (ea_cons (ev_bin (ev_name (i := 4) rfl (ev_lst (ea_cons (ev_tup (ea_cons (ev_str (ea_nil (⟨Nat.le_of_ble_eq_true rfl, ea_nil (⟨Nat.le_of_ble_eq_true rfl, ?_⟩)⟩))))))))))))))))
    refine od_cat .i .i (by show _ + 1 ≤ _; omega) ?_
    refine ea_cons (ev_name (i := 5) rfl (ea_cons (ev_name (i := 6) rfl (ea_nil (⟨Nat.le_of_ble_eq_true rfl, ?_⟩)))))
    refine hP word heads (lines ++ [T1 (S "end")]) _ _ k1 k2 N (NLe.refl N) { gd with ll := ?_, lr := fun r hr => ?_ } (.o pa.a1) (.o pa.a2) (NN1 _) (NN1 _) fun h => app_ne h.2.2.1
    · rw [List.length_append]; show _ + 1 ≤ 100; omega
    · rcases List.mem_append.mp hr with q | q
      · exact gd.lr r q
      · rw [List.mem_singleton.mp q]; exact ⟨rfl, by decide⟩
  have w45 : way = 4 ∨ way = 5 := by
    simp only [beq_eq_false_iff_ne] at *
    omega
  rcases w45 with rfl | rfl
  · refine ss_cons (st_set 9 sc_Other.nd (ev_callTy g_dict boot_dict (ea_cons (ev_if (et_cmp (ev_name (i := 7) rfl (ev_int (od_eqI hu ⟨_, rfl, fun _ => ev_name (i := 5) rfl (ea_nil ?_), fun h => absurd h (by decide)⟩))))))))
    refine cd_dictD (.o pa.a1) fun p fp => ?_
    refine ss_cons (st_dput hu (ev_if (et_cmp (ev_name (i := 7) rfl (ev_int (od_eqI hu ⟨_, rfl, fun _ => ?_, fun h => absurd h (by decide)⟩))))))
    refine ev_tup (ea_cons (ev_int (ea_cons (ev_str (ea_nil (⟨Nat.le_of_ble_eq_true rfl, ?_⟩))))))
    refine ev_name (i := 9) rfl (ev_name (i := 8) rfl (?_))
    obtain ⟨ls', e1, n1, l1, m1, o1⟩ := put_int (v := T2 (.int 0) (S "q")) k1 a gd.n1
    refine .inl ⟨p, _, Sum.inl (a : Int), rfl, put_same, rfl, by rw [List.length_map]; have := gd.l1; omega, ?_⟩
    rw [e1, put_put]
    refine ss_cons (st_ret (ev_if (et_cmp (ev_name (i := 7) rfl (ev_int (od_eqI hu ⟨_, rfl, fun _ => ?_, fun h => absurd h (by decide)⟩))))))
    refine ev_tup (ea_cons (ev_name (i := 2) rfl (ea_cons (ev_name (i := 3) rfl (ea_cons (ev_name (i := 4) rfl (ea_cons (ev_name (i := 9) rfl (ea_cons (ev_name (i := 6) rfl (ea_nil (⟨Nat.le_of_ble_eq_true rfl, ?_⟩))))))))))))
    refine hP word heads lines (.ref p) (.ref pe) ls' k2 _ (NLe.put fp) { gd with n1 := n1, l1 := ?_, v1 := fun e he => ?_ } (.o put_same) (.o (by rw [put_ne (nn_ne pa.a2 fp)]; exact pa.a2)) (NN1 _) (NN1 _) fun h => ?_
    · have := pa.s1; omega
    · rcases o1 e he with rfl | q
      · exact ⟨rfl, Nat.le_of_ble_eq_true rfl⟩
      · exact gd.v1 e q
    · have := pa.f1 _ (h.2.2.2.1.mem_iff.mpr m1)
      simp only [fallB, D.tup.injEq, List.cons.injEq, D.str.injEq] at this
      exact absurd this.2.1 (by decide +kernel)
  · refine ss_cons (st_set 9 sc_Other.nd (ev_callTy g_dict boot_dict (ea_cons (ev_if (et_cmp (ev_name (i := 7) rfl (ev_int (od_eqI hu ⟨_, rfl, fun h => absurd h (by decide), fun _ => ev_name (i := 6) rfl (ea_nil ?_)⟩))))))))
    refine cd_dictD (.o pa.a2) fun p fp => ?_
    refine ss_cons (st_dput hu (ev_if (et_cmp (ev_name (i := 7) rfl (ev_int (od_eqI hu ⟨_, rfl, fun h => absurd h (by decide), fun _ => ?_⟩))))))
    refine ev_bin (ev_name (i := 8) rfl (ev_int (od_add ?_)))
    refine ev_name (i := 9) rfl (ev_name (i := 8) rfl (?_))
    obtain ⟨ls', e1, n1, l1, m1, o1⟩ := put_int (v := .int ((a : Int) + 50)) k2 a gd.n2
    refine .inl ⟨p, _, Sum.inl (a : Int), rfl, put_same, rfl, by rw [List.length_map]; have := gd.l2; omega, ?_⟩
    rw [e1, put_put]
    refine ss_cons (st_ret (ev_if (et_cmp (ev_name (i := 7) rfl (ev_int (od_eqI hu ⟨_, rfl, fun h => absurd h (by decide), fun _ => ?_⟩))))))
    refine ev_tup (ea_cons (ev_name (i := 2) rfl (ea_cons (ev_name (i := 3) rfl (ea_cons (ev_name (i := 4) rfl (ea_cons (ev_name (i := 5) rfl (ea_cons (ev_name (i := 9) rfl (ea_nil (⟨Nat.le_of_ble_eq_true rfl, ?_⟩))))))))))))
    refine hP word heads lines (.ref pf) (.ref p) k1 ls' _ (NLe.put fp) { gd with n2 := n1, l2 := ?_, v2 := fun e he => ?_ } (.o (by rw [put_ne (nn_ne pa.a1 fp)]; exact pa.a1)) (.o put_same) (NN1 _) (NN1 _) fun h => ?_
    · have := pa.s2; omega
    · rcases o1 e he with rfl | q
      · exact ⟨rfl, Nat.zero_le _⟩
      · exact gd.v2 e q
    · have := pa.f2 _ (h.2.2.2.2.mem_iff.mpr m1)
      simp only [D.int.injEq] at this
      omega
end
end K26
namespace K26
open PySem PySem.Spec PyProof.Rows L2 Y
section
variable {P : Program} {w : World} {K : PySem.W.Frag} {mg : Str → Option Value} {base : Heap} {C : Addr}
abbrev psI : List Str := ["self", "name", "params", "rows", "lands", "closes"]
/-- all that is used of the class -/
structure TabG (P : Program) (w : World) (K : PySem.W.Frag) (mg : Str → Option Value) (base : Heap) (C : Addr) : Prop where
  tc : TabC K C
  ic : InsC K C
  g : mg "Table" = some (.ref C)
  ini : ∃ fI fdI, Mk K C fI ∧ FnG P w K mg base CX0 2 fI fdI psI (Fsp (JS K) K (spInit C)) ∧ KBn K fdI psI 4 ["lands", "closes"] (fun us ws => us ++ ws) (fun vs zs => vs ++ zs) ∧
    KBn K fdI psI 1 ["closes", "lands", "rows", "params", "name"] (fun us ws => us ++ ws.reverse) (fun vs zs => vs ++ zs.reverse) ∧ ∃ ds0, Vals [V.non, V.non] ds0 ∧ Binds K fdI psI ds0
  eq : ∃ fE fdE, PySem.W.findIn K (.ref C) "__eq__" = some (some (.ref fE)) ∧ PySem.W.isFn K (.ref fE) = true ∧ FnG P w K mg base CX0 1 fE fdE ["self", "other"] (Fsp (JS K) K (spEqT K C)) ∧ Binds K fdE ["self", "other"] []
  kN : PySem.W.kitOne K (.type "NoneType") (.ref C) = some false
  kT : PySem.W.kitOne K (.type "tuple") (.ref C) = some false
  kS : PySem.W.kitOne K (.type "str") (.ref C) = some false
  nC : PySem.W.notFirst K C (.ref C) = true
  nN : PySem.W.notFirst K C (.type "NoneType") = true
  nT : PySem.W.notFirst K C (.type "tuple") = true
  nS : PySem.W.notFirst K C (.type "str") = true
/-- what a new table is, once it is made -/
theorem tab_made {N N' : NN} {q p1 p2 : Addr} {word : Str} {heads lines : List D} {k1 k2 : List (Int × D)} (gd : GoodP heads lines k1 k2) (hq : N' q = some (.ins C (tabF (.str word) (.tup heads) lines p1 p2))) (h1 : N' p1 = some (.dk ((sK k1).map eK)))
    (h2 : N' p2 = some (.dk ((sK k2).map eK))) : TabAt N' C (.ref q) (.str word) (.tup heads) lines (sK k1) (sK k2) where
  at_ := ⟨q, p1, p2, rfl, hq, h1, h2⟩
  n1 := ((sK_perm k1).map _).nodup_iff.mpr gd.n1
  n2 := ((sK_perm k2).map _).nodup_iff.mpr gd.n2
  p0 := ⟨rfl, Nat.zero_le _⟩
  p1 := ⟨puDs_of fun h m => (gd.hh h m).1, Nat.succ_le_succ (Nat.le_trans (depDs_le fun h m => Nat.le_of_eq (gd.hh h m).2) (Nat.zero_le _))⟩
  p2 := ⟨puDs_of fun h m => (gd.lr h m).1, Nat.succ_le_succ (Nat.le_trans (depDs_le fun h m => (gd.lr h m).2) (by decide))⟩
  v1 := fun e he => ⟨(gd.v1 e ((sK_perm k1).mem_iff.mp he)).1, Nat.le_trans (gd.v1 e ((sK_perm k1).mem_iff.mp he)).2 (by decide)⟩
  v2 := fun e he => ⟨(gd.v2 e ((sK_perm k2).mem_iff.mp he)).1, Nat.le_trans (gd.v2 e ((sK_perm k2).mem_iff.mp he)).2 (by decide)⟩
/-- the promise of __init__, used -/
theorem init_use {t : Tau} {N : NN} {q : Addr} {word : Str} {heads lines : List D} {rows x y : D} {k1 k2 : List (Int × D)} {Pp : D → NN → Tau → Prop} (fq : N q = none) (hr : LV N rows lines ∨ rows = .tup lines) (hx : OptD N x k1) (hy : OptD N y k2) (gd : GoodP heads lines k1 k2)
    (h : ∀ p1 p2 N', NLe N N' → N q = none → N p1 = none → N p2 = none → p1 ≠ p2 → N' q = some (.ins C (tabF (.str word) (.tup heads) lines p1 p2)) → N' p1 = some (.dk ((sK k1).map eK)) → N' p2 = some (.dk ((sK k2).map eK)) → Pp (.ref q) N' t) :
    spInit C [.ref q, .str word, .tup heads, rows, x, y] (put N q (.ins C [])) t fun z N' t' => z = .non ∧ Pp (.ref q) N' t' := by
  have mv : ∀ {z : D} {ks : List (Int × D)}, OptD N z ks → OptD (put N q (.ins C [])) z ks := fun h => by
    rcases h with h | ⟨h, h' | ⟨a, e, ha⟩⟩
    · exact .inl h
    · exact .inr ⟨h, .inl h'⟩
    · exact .inr ⟨h, .inr ⟨a, e, by rw [put_ne (nn_ne ha fq)]; exact ha⟩⟩
  refine ⟨q, _, _, rows, x, y, lines, k1, k2, rfl, put_same, ?_, mv hx, mv hy, gd.n1, gd.n2, by have := gd.l1; omega, by have := gd.l2; omega, fun p1 p2 N' f1 f2 ne st hq h1 h2 => ⟨rfl, ?_⟩⟩
  · rcases hr with (h | ⟨a, e, ha⟩) | h
    · exact .inl (.inl h)
    · exact .inl (.inr ⟨a, e, by rw [put_ne (nn_ne ha fq)]; exact ha⟩)
    · exact .inr h
  · exact h p1 p2 N' (fun a d ha => st a d (by rw [put_ne (nn_ne ha fq)]; exact ha) (nn_ne ha fq)) fq (put_none f1).2 (put_none f2).2 ne hq h1 h2
abbrev sMade : Stmt := top 9
theorem sc_Made : FnScope ["parts"] ["parts"] (defScope sMade) := ⟨rfl, rfl, rfl, by decide +kernel, rfl, by decide +kernel, by decide +kernel⟩
def spMade (C : Addr) : PreD Tau := fun ds N t P => ∃ (word : Str) (heads lines : List D) (rows x y : D) (k1 k2 : List (Int × D)), ds = [.tup [.str word, .tup heads, rows, x, y]] ∧ LV N rows lines ∧ GoodP heads lines k1 k2 ∧ x ≠ .non ∧ y ≠ .non ∧ DV N x (k1.map eK) ∧ DV N y (k2.map eK) ∧
  ∀ q p1 p2 N', NLe N N' → N q = none → N p1 = none → N p2 = none → N' q = some (.ins C (tabF (.str word) (.tup heads) lines p1 p2)) → N' p1 = some (.dk ((sK k1).map eK)) → N' p2 = some (.dk ((sK k2).map eK)) → P (.ref q) N' t
theorem rel_app {K : PySem.W.Frag} : ∀ (I : Hp) (vs : List V) (ds : List D) (us : List V) (zs : List D), RA K I vs ds → RA K I us zs → RA K I (vs ++ us) (ds ++ zs) := fun _ _ _ _ _ a b => a.append b
theorem rel_rev {K : PySem.W.Frag} : ∀ (I : Hp) (vs : List V) (ds : List D) (us : List V) (zs : List D), RA K I vs ds → RA K I us zs → RA K I (vs ++ us.reverse) (ds ++ zs.reverse) := fun _ _ _ _ _ a b => a.append b.reverse
theorem ok_made (T : TabG P w K mg base C) {f : Addr} {fd : FuncData} (F : FnP K "_law_made" sMade f fd) : FnG P w K mg base CX0 4 f fd ["parts"] (Fsp (JS K) K (spMade C)) := by
  refine fn_ok F sc_Made (fun ds N t P h => ?_) fun cdv A outer s H E ds N t P hr h => ?_
  · obtain ⟨_, _, _, _, _, _, _, _, rfl, _⟩ := h
    rfl
  obtain ⟨word, heads, lines, rows, x, y, k1, k2, rfl, hl, gd, nx, ny, hx, hy, hP⟩ := h
  have hu := hr.units
  obtain ⟨fI, fdI, M, FI, bA, _, _⟩ := T.ini
  refine ss_cons (st_ret (ev_makeK (gD := fun a b => a ++ b) M FI hr T.g bA rel_app (ea_cons (ev_item hu (ev_name (i := 0) rfl (ev_int (?_)))))))
  refine ⟨_, ItD.tu TV.i rfl, ea_cons (ev_item hu (ev_name (i := 0) rfl (ev_int (?_))))⟩
  refine ⟨_, ItD.tu TV.i rfl, ea_cons (ev_item hu (ev_name (i := 0) rfl (ev_int (?_))))⟩
  refine ⟨_, ItD.tu TV.i rfl, ea_nil (ek_cons (ev_item hu (ev_name (i := 0) rfl (ev_int (?_)))))⟩
  refine ⟨_, ItD.tu TV.i rfl, ek_cons (ev_item hu (ev_name (i := 0) rfl (ev_int (?_))))⟩
  refine ⟨_, ItD.tu TV.i rfl, ek_nil ⟨rfl, rfl, fun q fq => ?_⟩⟩
  exact init_use fq (.inl hl) (.inr ⟨nx, hx⟩) (.inr ⟨ny, hy⟩) gd fun p1 p2 N' le f0 f1 f2 _ hq h1 h2 => hP q p1 p2 N' le f0 f1 f2 hq h1 h2
end
end K26
namespace K26
open PySem PySem.Spec PyProof.Rows L2 Y
section
variable {P : Program} {w : World} {K : PySem.W.Frag} {mg : Str → Option Value} {base : Heap}
abbrev sBegun : Stmt := top 4
theorem sc_Begun : FnScope ["script", "cell"] ["script"] (defScope sBegun) := ⟨rfl, rfl, rfl, by decide +kernel, rfl, by decide +kernel, by decide +kernel⟩
def spBegun : PreD Tau := fun ds N t P => ∃ ns : List Int, ds = [.klst (ns.map D.int)] ∧ ns.length ≤ 63 ∧ t = none ∧ ∀ d, P (.ref d) N (some (d, 0))
theorem kd_nodup : ([kS "great", kS "rest", kS "turn", kS "seed", kS "cells"] : List Key).Nodup := by decide +kernel
theorem ok_begun {f : Addr} {fd : FuncData} (F : FnP K "_law_begun" sBegun f fd) : FnG P w K mg base CX0 1 f fd ["script"] (Fsp (JS K) K spBegun) := by
  refine fn_ok F sc_Begun (fun ds N t P h => ?_) fun cdv A outer s H E ds N t P hr h => ?_
  · obtain ⟨_, rfl, _⟩ := h
    rfl
  obtain ⟨ns, rfl, hl, rfl, hP⟩ := h
  have hu := hr.units
  refine ss_open fun M ph hc => ?_
  obtain rfl : M = N0 := ph
  have e0 : uni N N0 = N := by funext p; exact uni_l rfl
  rw [e0]
  refine ss_cons (st_ret (ev_disp fun p fp => ep_cons (ev_str (ev_lcN [("cell", 1)] rfl sc_Begun.nd (blkOk_by (show blkC ["script", "cell"] (defScope sBegun) _ _ = true by decide +kernel)) (fun _ _ _ _ _ => pg_name (i := 1) sc_Begun.nd rfl (Or.inl rfl)) (og_name (by decide)) (pi_lst (ev_name (i := 0) rfl ?_))))))
  refine ⟨_, .inr rfl, fun g fg => ⟨fun i acc N1 t1 => (∃ ks : List Int, acc = ks.map D.int ∧ (∀ x ∈ ks, 0 < x) ∧ ks.length ≤ i) ∧ N1 = put (put N p (.dk [])) g (.lst acc) ∧ i ≤ 63, ⟨⟨[], rfl, (fun x (hx : x ∈ ([] : List Int)) => nomatch hx), Nat.le_refl _⟩, rfl, by omega⟩, ?_, ?_, ?_⟩⟩
  · rintro i acc N1 t1 ⟨_, rfl, _⟩
    exact ⟨trivial, put_same⟩
  · rintro i d acc N1 t1 hd ⟨⟨ks, rfl, hk, hi⟩, rfl, h63⟩
    rw [List.getElem?_map] at hd
    cases he : ns[i]? with
    | none => rw [he] at hd; cases hd
    | some x =>
      rw [he] at hd; cases hd
      have il : i < ns.length := (List.getElem?_eq_some_iff.mp he).1
      refine tr_name fun s0 H0 Ca cl fp => ?_
      refine et_cmp (ev_name (i := 1) rfl (ev_bin (ev_int (ev_int (od_pow ⟨by decide, by decide, by decide⟩ (od_ge ⟨_, rfl, fun hT => ?_, fun hT s1 H1 Ca1 cl1 fp1 => ?_⟩))))))
      · exact ⟨⟨ks, rfl, hk, by omega⟩, rfl, by omega⟩
      · refine ev_name (i := 1) rfl ⟨put_same, by rw [List.length_map]; omega, ⟨ks ++ [x], by rw [List.map_append]; rfl, fun y hy => ?_, by rw [List.length_append]; show _ + 1 ≤ _; omega⟩, by rw [put_put], by omega⟩
        rcases List.mem_append.mp hy with q | q
        · exact hk y q
        · rw [List.mem_singleton.mp q]
          have := of_decide_eq_true hT
          have e18 : (10 : Int) ^ (18 : Int).toNat = 1000000000000000000 := by decide
          rw [e18] at this
          omega
  · rintro acc N1 t1 ⟨⟨ks, rfl, hk, _⟩, rfl, _⟩
    refine ep_cons (ev_str (ev_int ?_))
    refine ep_cons (ev_str (ev_int ?_))
    refine ep_cons (ev_str (ev_int ?_))
    refine ep_cons (ev_str (ev_bin (ev_lc [("cell", 1)] rfl sc_Begun.nd (blkOk_by (show blkC ["script", "cell"] (defScope sBegun) _ _ = true by decide +kernel)) (fun _ _ _ _ _ => pg_name (i := 1) sc_Begun.nd rfl (Or.inl rfl)) (og_name (by decide)) (pi_lst (ev_name (i := 0) rfl ?_)))))
    refine ⟨_, .inr rfl, fun _ _ => trivial, by rw [List.length_map]; omega, fun i acc t => ∃ cs : List Int, acc = cs.map D.int ∧ (∀ x ∈ cs, 0 ≤ x ∧ x < 2147483629), ⟨[], rfl, (fun x (hx : x ∈ ([] : List Int)) => nomatch hx)⟩, fun i d acc N t hd hN hl iv => ?_, fun acc t hl iv => ?_⟩
    · obtain ⟨cs, rfl, hcs⟩ := iv
      rw [List.getElem?_map] at hd
      cases he : ns[i]? with
      | none => rw [he] at hd; cases hd
      | some x =>
        rw [he] at hd; cases hd
        refine tr_name fun s0 H0 Ca cl fp => ?_
        refine ⟨rfl, fun h => Bool.noConfusion h, fun _ s0 H0 Ca cl fp => ?_⟩
        refine ev_bin (ev_name (i := 1) rfl (ev_int (od_mod (by decide) ?_)))
        refine ⟨rfl, cs ++ [x % 2147483629], by rw [List.map_append]; rfl, fun y hy => ?_⟩
        rcases List.mem_append.mp hy with q | q
        · exact hcs y q
        · rw [List.mem_singleton.mp q]
          exact ⟨Int.emod_nonneg _ (by decide), Int.emod_lt_of_pos _ (by decide)⟩
    · obtain ⟨cs, rfl, hcs⟩ := iv
      rw [List.length_map, List.length_map] at hl
      refine ev_lst (ea_cons (ev_int (ea_nil ⟨Nat.le_of_ble_eq_true rfl, ?_⟩)))
      refine od_catN .i .i (by rw [List.length_map]; show _ + 1 ≤ _; omega) fun c fc => ?_
      obtain ⟨cg, fc⟩ := put_none fc
      obtain ⟨cp, fc⟩ := put_none fc
      obtain ⟨gp, fg⟩ := put_none fg
      refine ep_nil ⟨by rw [put_ne (Ne.symm cp), put_ne (Ne.symm gp), put_same], sd g c 0 0 7, rfl, by show 5 ≤ 15; decide, ?_⟩
      rw [mergeP_nil (more := sd g c 0 0 7) kd_nodup]
      have ec : (cs.map D.int) ++ [.int 77] = (cs ++ [77]).map D.int := by rw [List.map_append]; rfl
      rw [ec]
      refine ⟨stN p g c ks (cs ++ [77]) 0 0 7, N, some (p, 0), ?_, ⟨g, c, ks, cs ++ [77], 0, 0, 7, rfl, Ne.symm gp, Ne.symm cp, Ne.symm cg, ?_⟩, fun q x hx => ?_, hP p⟩
      · funext q
        by_cases q1 : q = p
        · subst q1; rw [put_same, uni_r stN_d]
        · rw [put_ne q1]
          by_cases q2 : q = c
          · subst q2; rw [put_same, uni_r (stN_c (Ne.symm cp) (Ne.symm cg))]
          · rw [put_ne q2]
            by_cases q3 : q = g
            · subst q3; rw [put_same, uni_r (stN_g (Ne.symm gp))]
            · rw [put_ne q3, put_ne q1, uni_l]
              unfold stN
              rw [put_ne q1, put_ne q3, put_ne q2]; rfl
      · refine ⟨by decide, hk, by decide, by decide, by decide, by decide, by simp, by rw [List.length_append]; show _ + 1 ≤ 100; omega, fun y hy => ?_⟩
        rcases List.mem_append.mp hy with q | q
        · exact hcs y q
        · rw [List.mem_singleton.mp q]; decide
      · obtain ⟨a, b⟩ := stN_some (Ne.symm gp) (Ne.symm cp) (Ne.symm cg) hx
        refine ⟨a, ?_⟩
        rcases b with rfl | rfl | rfl
        · exact fp
        · exact fg
        · exact fc
end
end K26
namespace K26
open PySem PySem.Spec PyProof.Rows L2 Y
section
variable {P : Program} {w : World} {K : PySem.W.Frag} {mg : Str → Option Value} {base : Heap} {C : Addr}
theorem costDs_le {c : Nat} : ∀ {xs : List D}, (∀ x ∈ xs, costD x ≤ c) → costDs xs ≤ xs.length * (c + 2)
  | [], _ => by simp [costDs]
  | x :: xs, h => by
    unfold costDs
    have a := h x List.mem_cons_self
    have b := costDs_le fun y m => h y (List.mem_cons_of_mem _ m)
    rw [List.length_cons, Nat.succ_mul]; omega
theorem lfDs_of : ∀ {xs : List D}, (∀ x ∈ xs, lfD x) → lfDs xs
  | [], _ => trivial
  | x :: xs, h => ⟨h x List.mem_cons_self, lfDs_of fun y m => h y (List.mem_cons_of_mem _ m)⟩
theorem lf_int {i : Int} (h0 : 0 ≤ i) (h1 : i < 1000) : lfD (.int i) := by
  show i.natAbs.log2 < 1920
  by_cases e : i.natAbs = 0
  · rw [e]; decide
  · rw [Nat.log2_lt e]
    exact Nat.lt_of_lt_of_le (show i.natAbs < 2 ^ 10 by omega) (Nat.pow_le_pow_right (by decide) (by decide))
theorem bx_lf {b : D} (h : b ∈ boxesD) : lfD b ∧ costD b = 2000 := by
  simp only [boxesD, List.mem_cons, List.not_mem_nil, or_false] at h
  rcases h with rfl | rfl | rfl | rfl <;> exact ⟨by show (reprText _).length ≤ 2000; decide +kernel, rfl⟩
theorem lf_lit {s : Str} (h : ((reprText s).length ≤ 2000) = True) : lfD (.str s) := of_eq_true h
theorem row_lf {r : D} (h : RowOk r) : lfD r ∧ costD r ≤ 20000 := by
  obtain ⟨to, b, t0, t1, hb, hr⟩ := h
  obtain ⟨pb, db⟩ := bx_lf hb
  have li := lf_int t0 t1
  have l0 : lfD (.int 0) := lf_int (by decide) (by decide)
  have l3 : lfD (.int 3) := lf_int (by decide) (by decide)
  have ls : ∀ s ∈ ([ "set", "box", "a", "say", "none", "if", "end", "give", "number", "all", "throw", "return"] : List Str), lfD (.str s) := by
    intro s hs
    have : ∀ s ∈ ([ "set", "box", "a", "say", "none", "if", "end", "give", "number", "all", "throw", "return"] : List Str), (reprText s).length ≤ 2000 := by decide +kernel
    exact this s hs
  simp only [rowsOf, List.mem_append, List.mem_cons, List.not_mem_nil, or_false] at hr
  rcases hr with ((rfl | rfl | rfl | rfl) | rfl | rfl | rfl) | rfl
  · exact ⟨⟨ls _ (by simp), pb, ⟨ls _ (by simp), ls _ (by simp), trivial⟩, li, trivial⟩, by simp [costD, costDs, db]⟩
  · exact ⟨⟨ls _ (by simp), ⟨ls _ (by simp), trivial⟩, li, trivial⟩, by simp [costD, costDs, db]⟩
  · exact ⟨⟨ls _ (by simp), ⟨ls _ (by simp), pb, trivial⟩, li, l0, trivial⟩, by simp [costD, costDs, db]⟩
  · exact ⟨⟨ls _ (by simp), trivial⟩, by simp [costD, costDs]⟩
  · exact ⟨⟨ls _ (by simp), pb, ⟨ls _ (by simp), l3, trivial⟩, li, trivial⟩, by simp [costD, costDs, db]⟩
  · exact ⟨⟨ls _ (by simp), pb, ⟨ls _ (by simp), ls _ (by simp), trivial⟩, li, trivial⟩, by simp [costD, costDs, db]⟩
  · exact ⟨⟨ls _ (by simp), ⟨ls _ (by simp), pb, trivial⟩, trivial⟩, by simp [costD, costDs, db]⟩
  · exact ⟨⟨ls _ (by simp), ⟨ls _ (by simp), trivial⟩, trivial⟩, by simp [costD, costDs]⟩
abbrev sFields : Stmt := top 10
theorem sc_Fields_right : FnScope ["one", "parts", "found", "some"] ["one", "parts"] (defScope sFields) := ⟨rfl, rfl, rfl, by decide +kernel, rfl, by decide +kernel, by decide +kernel⟩
abbrev fW : Str := "f"
def spFields (C : Addr) : PreD Tau := fun ds N t P => ∃ (x : D) (heads lines : List D) (pf pe : Addr) (k1 k2 : List (Int × D)), ds = [x, partsD fW heads lines (.ref pf) (.ref pe)] ∧ PartsAt N fW heads lines pf pe k1 k2 ∧ TabAt N C x (.str fW) (.tup heads) lines (sK k1) (sK k2) ∧
  (∀ h ∈ heads, h ∈ boxesD) ∧ (∀ e ∈ k1, 0 ≤ e.1 ∧ e.1 < 1000) ∧ (∀ e ∈ k2, 0 ≤ e.1 ∧ e.1 < 1000) ∧ P (.bl true) N t
/-- an entry's pair may be told -/
def ItOk (d : D) : Prop := lfD d ∧ costD d ≤ 9000 ∧ depD d ≤ 3
theorem items_ok {ks : List (Int × D)} (h : ∀ e ∈ ks, 0 ≤ e.1 ∧ e.1 < 1000) (v : ∀ e ∈ ks, ItOk e.2) (l : ks.length ≤ 60) : lfD (.lst (ks.map fun e => .tup [.int e.1, e.2])) ∧ depD (.lst (ks.map fun e => .tup [.int e.1, e.2])) ≤ 60 ∧ costD (.lst (ks.map fun e => .tup [.int e.1, e.2])) ≤ 16000000 := by
  refine ⟨lfDs_of fun x m => ?_, ?_, ?_⟩
  · obtain ⟨e, he, rfl⟩ := List.mem_map.mp m
    exact ⟨lf_int (h e he).1 (h e he).2, (v e he).1, trivial⟩
  · refine Nat.succ_le_of_lt (Nat.lt_of_le_of_lt (depDs_le (n := 4) fun x m => ?_) (by decide))
    obtain ⟨e, he, rfl⟩ := List.mem_map.mp m
    refine Nat.succ_le_succ (depDs_le fun x hx => ?_)
    simp only [List.mem_cons, List.not_mem_nil, or_false] at hx
    rcases hx with rfl | rfl
    · exact Nat.zero_le _
    · exact (v e he).2.2
  · have := costDs_le (c := 12000) (xs := ks.map fun e => D.tup [.int e.1, e.2]) fun x m => by
      obtain ⟨e, he, rfl⟩ := List.mem_map.mp m
      have := (v e he).2.1
      show (2000 + 2 + (costD e.2 + 2 + 0)) + 4 ≤ 12000
      omega
    rw [List.length_map] at this
    show _ + 4 ≤ 16000000
    have : ks.length * (12000 + 2) ≤ 60 * 12002 := Nat.mul_le_mul_right _ l
    omega
theorem ok_fields (T : TabG P w K mg base C) (g_repr : mg "repr" = none) (g_tuple : mg "tuple" = none) (g_list : mg "list" = none) (g_sorted : mg "sorted" = none) {f : Addr} {fd : FuncData} (F : FnP K "_law_fields_right" sFields f fd) :
    FnG P w K mg base CX0 2 f fd ["one", "parts"] (Fsp (JS K) K (spFields C)) := by
  refine fn_ok F sc_Fields_right (fun ds N t P h => ?_) fun cdv A outer s H E ds N t P hr h => ?_
  · obtain ⟨_, _, _, _, _, _, _, rfl, _⟩ := h
    rfl
  obtain ⟨x, heads, lines, pf, pe, k1, k2, rfl, pa, ta, hb, hk1, hk2, hP⟩ := h
  obtain ⟨q, p1, p2, rfl, hq, h1, h2⟩ := ta.at_
  have tl : lfD (.tup [.str fW, .tup heads, .tup lines]) := ⟨by show (reprText _).length ≤ 2000; decide +kernel, lfDs_of fun h m => (bx_lf (hb h m)).1, lfDs_of fun r m => (row_lf (pa.rs r m)).1, trivial⟩
  have td : depD (.tup [.str fW, .tup heads, .tup lines]) ≤ 60 := by
    refine Nat.succ_le_of_lt (Nat.lt_of_le_of_lt (depDs_le (n := 5) fun x hx => ?_) (by decide))
    simp only [List.mem_cons, List.not_mem_nil, or_false] at hx
    rcases hx with rfl | rfl | rfl
    · exact Nat.zero_le _
    · exact ta.p1.2
    · exact ta.p2.2
  have tc : costD (.tup [.str fW, .tup heads, .tup lines]) ≤ 16000000 := by
    have a := costDs_le (c := 2000) (xs := heads) fun h m => Nat.le_of_eq (bx_lf (hb h m)).2
    have b := costDs_le (c := 20000) (xs := lines) fun r m => (row_lf (pa.rs r m)).2
    have c : heads.length * (2000 + 2) ≤ 2 * 2002 := Nat.mul_le_mul_right _ pa.hs
    have d : lines.length * (20000 + 2) ≤ 50 * 20002 := Nat.mul_le_mul_right _ pa.ls
    show (2000 + 2 + (costDs heads + 4 + 2 + (costDs lines + 4 + 2 + 0))) + 4 ≤ 16000000
    omega
  have v1 : ∀ e ∈ k1, ItOk e.2 := fun e he => by
    rw [pa.f1 e he]
    exact ⟨⟨lf_int (by decide) (by decide), by show (reprText _).length ≤ 2000; decide +kernel, trivial⟩, by show 2000 + 2 + (2000 + 2 + 0) + 4 ≤ 9000; decide, by show 1 ≤ 3; decide⟩
  have v2 : ∀ e ∈ k2, ItOk e.2 := fun e he => by
    rw [pa.f2 e he]
    exact ⟨lf_int (hk2 e he).1 (hk2 e he).2, by show 2000 ≤ 9000; decide, Nat.zero_le _⟩
  have hu := hr.units
  refine ss_cons (st_if (et_cmp (ev_callB g_repr boot_repr (ea_cons (ev_tup (ea_cons (ev_fld (ev_name (i := 0) rfl (?_)))))))))
  refine ⟨_, _, _, .o hq, T.tc.cls, T.tc.n1, lk_name, ?_⟩
  refine ea_cons (ev_fld (ev_name (i := 0) rfl (?_)))
  refine ⟨_, _, _, .o hq, T.tc.cls, T.tc.n2, lk_params, ?_⟩
  refine ea_cons (ev_fld (ev_name (i := 0) rfl (?_)))
  refine ⟨_, _, _, .o hq, T.tc.cls, T.tc.n3, lk_rows, ?_⟩
  refine ea_nil (⟨Nat.le_of_ble_eq_true rfl, ea_nil (?_)⟩)
  refine cd_repr hu hr.gs tl td tc ⟨_, .inl rfl⟩ ?_
  refine ev_callB g_repr boot_repr (ea_cons (ev_tup (ea_cons (ev_item hu (ev_name (i := 1) rfl (ev_int (?_)))))))
  refine ⟨_, ItD.tu TV.i rfl, ?_⟩ -- ITEM parts[0]
  refine ea_cons (ev_item hu (ev_name (i := 1) rfl (ev_int (?_))))
  refine ⟨_, ItD.tu TV.i rfl, ?_⟩ -- ITEM parts[1]
  refine ea_cons (ev_callTy g_tuple boot_tuple (ea_cons (ev_item hu (ev_name (i := 1) rfl (ev_int (?_))))))
  refine ⟨_, ItD.tu TV.i rfl, ?_⟩ -- ITEM parts[2]
  refine ea_nil (?_)
  refine cd_tuple (.inl .i) ?_ -- TYPE tuple(parts[2])
  refine ea_nil (⟨Nat.le_of_ble_eq_true rfl, ea_nil (?_)⟩)
  refine cd_repr hu hr.gs tl td tc ⟨_, .inl rfl⟩ ?_
  refine od_neS hu ?_ -- NotEq: repr((one.name, one.params, one.rows)) != repr((parts[0], parts[1], tuple(parts[2])))
  refine ⟨_, rfl, ?_⟩
  refine ⟨fun hT => by simp at hT, fun hT => ss_nil ?_⟩
  refine ss_cons (st_for PassesOwn.never rfl (pi_lst (ev_lst (ea_cons (ev_tup (ea_cons (ev_fld (ev_name (i := 0) rfl (?_)))))))))
  refine ⟨_, _, _, .o hq, T.tc.cls, T.tc.n4, lk_lands, ?_⟩
  refine ea_cons (ev_item hu (ev_name (i := 1) rfl (ev_int (?_))))
  refine ⟨_, ItD.tu TV.i rfl, ?_⟩ -- ITEM parts[3]
  refine ea_nil (⟨Nat.le_of_ble_eq_true rfl, ea_cons (ev_tup (ea_cons (ev_fld (ev_name (i := 0) rfl (?_)))))⟩)
  refine ⟨_, _, _, .o hq, T.tc.cls, T.tc.n5, lk_closes, ?_⟩
  refine ea_cons (ev_item hu (ev_name (i := 1) rfl (ev_int (?_))))
  refine ⟨_, ItD.tu TV.i rfl, ?_⟩ -- ITEM parts[4]
  refine ea_nil (⟨Nat.le_of_ble_eq_true rfl, ea_nil (⟨Nat.le_of_ble_eq_true rfl, ?_⟩)⟩)
  refine ⟨_, .inl rfl, ?_⟩ -- LIST [(one.lands, parts[3]), (one.closes, parts[4])]
  -- FOR (found, some) in [(one.lands, parts[3]), (one.closes, parts[4])]
  refine ⟨fun i e N' t' => N' = N ∧ t' = t ∧ ∃ a b, e = [some (.ref q), some (partsD fW heads lines (.ref pf) (.ref pe)), a, b], ⟨rfl, rfl, none, none, rfl⟩, fun _ _ _ _ _ => trivial, fun i d e N' t' hd iv => ?_, fun e N' t' iv => ?_⟩
  · obtain ⟨rfl, rfl, a, b, rfl⟩ := iv
    have cs : ∃ p pk k, d = T2 (.ref p) (.ref pk) ∧ N' p = some (.dk ((sK k).map eK)) ∧ N' pk = some (.dk (k.map eK)) ∧ (k.map (·.1)).Nodup ∧ (∀ e ∈ k, 0 ≤ e.1 ∧ e.1 < 1000) ∧ (∀ e ∈ k, ItOk e.2) ∧ k.length ≤ 50 := by
      match i, hd with
      | 0, hd => cases hd; exact ⟨p1, pf, k1, rfl, h1, pa.a1, pa.good.n1, hk1, v1, pa.s1⟩
      | 1, hd => cases hd; exact ⟨p2, pe, k2, rfl, h2, pa.a2, pa.good.n2, hk2, v2, pa.s2⟩
    obtain ⟨p, pk, k, rfl, hp, hpk, nd, hk, hv, hl⟩ := cs
    obtain ⟨i1, i2, i3⟩ := items_ok (ks := sK k) (fun e he => hk e ((sK_perm k).mem_iff.mp he)) (fun e he => hv e ((sK_perm k).mem_iff.mp he)) (by rw [(sK_perm k).length_eq]; omega)
    refine tg_row rfl TV.i ?_
    refine tg_name 2 sc_Fields_right.nd ?_
    refine tg_name 3 sc_Fields_right.nd ?_
    refine ss_cons (st_if (et_cmp (ev_callB g_repr boot_repr (ea_cons (ev_listItems rfl g_list (ev_name (i := 2) rfl ?_))))))
    refine ⟨p, _, rfl, hp, ?_⟩
    rw [List.map_map]
    refine ea_nil (cd_repr hu hr.gs i1 i2 i3 ⟨_, .inr rfl⟩ ?_)
    refine ev_callB g_repr boot_repr (ea_cons (ev_sortItems rfl g_sorted (ev_name (i := 3) rfl ?_)))
    refine ⟨pk, k, rfl, hpk, by omega, nd, fun zs z1 z2 => ?_⟩
    rw [sK_of z1 z2 nd]
    refine ea_nil (cd_repr hu hr.gs i1 i2 i3 ⟨_, .inr rfl⟩ ?_)
    refine od_neS hu ⟨_, rfl, fun hT => ?_, fun hT => ss_nil (ss_nil ⟨rfl, rfl, _, _, rfl⟩)⟩
    exact absurd (show (!(shD (.lst ((sK k).map fun e => .tup [.int e.1, e.2])) == shD (.lst ((sK k).map fun e => .tup [.int e.1, e.2])))) = true from hT) (by rw [beq_self_eq_true]; decide)
  · obtain ⟨rfl, rfl, a, b, rfl⟩ := iv
    exact ss_cons (st_ret (ev_bl hP))
end
end K26
namespace K26
open PySem PySem.Spec PyProof.Rows L2 Y
section
variable {P : Program} {w : World} {K : PySem.W.Frag} {mg : Str → Option Value} {base : Heap} {C : Addr}
abbrev sLaw : Stmt := top 11
abbrev NLaw : List Str := ["script", "state", "turn", "many", "lines", "keys", "falls", "ends", "parts", "handed", "one", "thing", "same", "bare", "k"]
theorem sc_Law : FnScope NLaw ["script"] (defScope sLaw) := ⟨rfl, rfl, rfl, by decide +kernel, rfl, by decide +kernel, by decide +kernel⟩
def spLaw : PreD Tau := fun ds N t P => ∃ ns : List Int, ds = [.klst (ns.map D.int)] ∧ ns.length ≤ 63 ∧ t = none ∧ ∀ N' t', P (.bl true) N' t'
/-- all that the law uses -/
structure G26 (P : Program) (w : World) (K : PySem.W.Frag) (mg : Str → Option Value) (base : Heap) (C : Addr) : Prop where
  T : TabG P w K mg base C
  begun : Fn P w K mg base 1 "_law_begun" ["script"] spBegun
  take : Fn P w K mg base 1 "_law_take" ["state", "many"] spTake
  row : Fn P w K mg base 3 "_law_row" ["state", "many"] spRow
  other : Fn P w K mg base 2 "_law_other" ["state", "parts"] spOther
  made : Fn P w K mg base 4 "_law_made" ["parts"] (spMade C)
  fields : Fn P w K mg base 2 "_law_fields_right" ["one", "parts"] (spFields C)
  range : mg "range" = none
  max : mg "max" = none
  min : mg "min" = none
  len : mg "len" = none
  list : mg "list" = none
  dict : mg "dict" = none
  tuple : mg "tuple" = none
/-- the keys of a turn, from above -/
structure KeysOk (m i : Nat) (ks : List Int) : Prop where
  desc : ks.Pairwise (fun a b => b < a)
  bnd : ∀ k ∈ ks, (m : Int) - i ≤ k ∧ k < m
  len : ks.length ≤ i
theorem KeysOk.nodup {m i : Nat} {ks : List Int} (h : KeysOk m i ks) : ks.Nodup := h.desc.imp fun h e => by omega
theorem rev_at {m i : Nat} {d : D} (h : ((List.range m).map fun (i : Nat) => D.int (i : Int)).reverse[i]? = some d) : i < m ∧ d = .int ((m : Int) - 1 - i) := by
  have lt : i < m := by have := (List.getElem?_eq_some_iff.mp h).1; simpa using this
  rw [List.getElem?_reverse (by simpa using lt), List.length_map, List.length_range, List.getElem?_map, List.getElem?_range (by omega)] at h
  refine ⟨lt, ?_⟩
  have h : D.int ((m - 1 - i : Nat) : Int) = d := Option.some.inj h
  rw [← h]
  have e : ((m - 1 - i : Nat) : Int) = (m : Int) - 1 - i := by omega
  rw [e]
theorem rng_at {m i : Nat} {d : D} (h : ((List.range m).map fun (i : Nat) => D.int (i : Int))[i]? = some d) : i < m ∧ d = .int (i : Int) := by
  have lt : i < m := by have := (List.getElem?_eq_some_iff.mp h).1; simpa using this
  rw [List.getElem?_map, List.getElem?_range lt] at h
  cases h
  exact ⟨lt, rfl⟩
def k1Of (ks : List Int) : List (Int × D) := ks.map fun k => (k, fallB)
def k2Of (ks : List Int) : List (Int × D) := ks.map fun k => (k, .int k)
theorem fst1 (ks : List Int) : (k1Of ks).map (·.1) = ks := by unfold k1Of; rw [List.map_map]; exact List.map_id ks
theorem fst2 (ks : List Int) : (k2Of ks).map (·.1) = ks := by unfold k2Of; rw [List.map_map]; exact List.map_id ks
theorem nd_eK {ks : List (Int × D)} (h : (ks.map (·.1)).Nodup) : ((ks.map eK).map (·.1)).Nodup := by
  have e : (ks.map eK).map (·.1) = (ks.map (·.1)).map Sum.inl := by rw [List.map_map, List.map_map]; rfl
  rw [e]
  exact List.Pairwise.map _ (fun a b h e => h (Sum.inl.inj e)) h
theorem od_neD0 {τ : Type} {J : τ → Hp → Prop} {X : Cx} {N : NN} {t : τ} {P : D → NN → τ → Prop} {p q : Addr} (hu : X.A.units + 64 < cLine) (hp : N p = some (.dk [])) (hq : N q = some (.dk [])) (h : P (.bl false) N t) : OpD J X (compareOp .NotEq) (.ref p) (.ref q) N t P := by
  have e1 : shp N (.ref p) = .K [] := by simp [shp, hp]
  have e2 : shp N (.ref q) = .K [] := by simp [shp, hq]
  refine od_ne (b := true) 1 hu (by decide) ?_ (fun xs ys h1 => by rw [e1] at h1; cases h1) h
  unfold eqF
  rw [e1, e2]; rfl
theorem sk0 : (sK []).map eK = [] := by simp [sK]
theorem init_use' {t : Tau} {N : NN} {q : Addr} {word : Str} {heads lines : List D} {rows x y : D} {k1 k2 : List (Int × D)} {Q : NN → Tau → Prop} (fq : N q = none) (hr : LV N rows lines ∨ rows = .tup lines) (hx : OptD N x k1) (hy : OptD N y k2) (gd : GoodP heads lines k1 k2)
    (h : ∀ p1 p2 N', NLe N N' → N q = none → N p1 = none → N p2 = none → p1 ≠ p2 → N' q = some (.ins C (tabF (.str word) (.tup heads) lines p1 p2)) → N' p1 = some (.dk ((sK k1).map eK)) → N' p2 = some (.dk ((sK k2).map eK)) → Q N' t) :
    spInit C [.ref q, .str word, .tup heads, rows, x, y] (put N q (.ins C [])) t fun z N' t' => z = .non ∧ Q N' t' := init_use (Pp := fun _ => Q) fq hr hx hy gd h
theorem NN1 (q : Addr) : D.ref q ≠ .non := fun e => by cases e
theorem ok_law (G : G26 P w K mg base C) {f : Addr} {fd : FuncData} (F : FnP K "law" sLaw f fd) : FnG P w K mg base CX0 6 f fd ["script"] (Fsp (JS K) K spLaw) := by
  refine fn_ok F sc_Law (fun ds N t P h => ?_) fun cdv A outer s H E ds N t P hr h => ?_
  · obtain ⟨_, rfl, _⟩ := h
    rfl
  obtain ⟨ns, rfl, hl, rfl, hP⟩ := h
  have hu := hr.units
  obtain ⟨fI, fdI, M, FI, bA, bB, ds0, vd0, bC⟩ := G.T.ini
  refine ss_cons (st_set 1 sc_Law.nd (ev_fn G.begun hr (by decide) (ea_cons (ev_name (i := 0) rfl (ea_nil (?_))))))
  refine ⟨ns, rfl, hl, rfl, fun d => ?_⟩
  refine ss_cons (st_for PassesOwn.never rfl (pi_rng G.range (ev_callB G.max boot_max (ea_cons (ev_int (ea_cons (ev_callB G.min boot_min (ea_cons (ev_int (ea_cons (ev_callB G.len boot_len (ea_cons (ev_name (i := 0) rfl (ea_nil (?_)))))))))))))))
  refine cd_len (.inr (.inr rfl)) (ea_nil (cd_min2 rfl (ea_nil (cd_max2 rfl ?_))))
  refine ⟨_, rfl, by omega, by omega, ?_⟩
  refine ⟨fun i e N t => i ≤ 6 ∧ (∃ n, t = some (d, n) ∧ n ≤ 100 * i) ∧ ∃ a2 a3 a4 a5 a6 a7 a8 a9 a10 a11 a12 a13 a14, e = [some (.klst (ns.map D.int)), some (.ref d), a2, a3, a4, a5, a6, a7, a8, a9, a10, a11, a12, a13, a14], ⟨by omega, ⟨0, rfl, by omega⟩, none, none, none, none, none, none, none, none, none, none, none, none, none, rfl⟩, fun _ _ _ _ _ => trivial, fun i x e N t hd iv => ?_, fun e N t iv => ?_⟩
  · obtain ⟨hi, ⟨n, rfl, hn⟩, a2, a3, a4, a5, a6, a7, a8, a9, a10, a11, a12, a13, a14, rfl⟩ := iv
    obtain ⟨hi6, rfl⟩ := rng_at hd
    have hi6 : i < 6 := by
      rw [List.length_map] at hi6
      split at hi6 <;> split at hi6 <;> omega
    refine tg_name 2 sc_Law.nd ?_
    refine ss_cons (st_set 3 sc_Law.nd (ev_bin (ev_int (ev_fn G.take hr (by decide) (ea_cons (ev_name (i := 1) rfl (ea_cons (ev_int (ea_nil (?_))))))))))
    refine ⟨d, 6, n, rfl, rfl, by decide, by decide, by omega, fun r r0 r6 => od_add ?_⟩
    obtain ⟨m, hm1, hm6, em⟩ : ∃ m : Nat, 1 ≤ m ∧ m ≤ 6 ∧ 1 + r = (m : Int) := ⟨(1 + r).toNat, by omega, by omega, by omega⟩
    rw [em]
    refine ss_cons (st_setLc (i := 4) [("k", 14)] rfl sc_Law.nd (blkOk_by (show blkC NLaw (defScope sLaw) _ _ = true by decide +kernel)) (fun _ _ _ _ _ => pg_name (i := 14) sc_Law.nd rfl (Or.inl rfl)) (og_name (by decide)) (pi_rng G.range (ev_name (i := 3) rfl (?_))))
    refine ⟨_, rfl, by omega, by omega, fun _ _ => trivial, by simp; omega, fun i acc t => (∀ r ∈ acc, RowOk r) ∧ acc.length = i ∧ i ≤ m ∧ t = some (d, n + 1 + 3 * i), ⟨(fun x (hx : x ∈ ([] : List D)) => nomatch hx), rfl, by omega, rfl⟩, fun i x acc N t hd hN hl iv => ?_, fun acc t hl iv => ?_⟩
    · obtain ⟨h1, h2, h3, rfl⟩ := iv
      obtain ⟨lt, rfl⟩ := rng_at hd
      rw [Int.toNat_natCast] at lt
      refine tr_name fun s0 H0 Ca cl fp => ?_
      refine ⟨rfl, fun h => Bool.noConfusion h, fun _ s0 H0 Ca cl fp => ?_⟩
      refine ev_fn G.row hr (by decide) (ea_cons (ev_name (i := 1) rfl (ea_cons (ev_name (i := 3) rfl (ea_nil (?_))))))
      refine ⟨d, n + 1 + 3 * i, m, rfl, rfl, by omega, by omega, by omega, fun r hr => ⟨rfl, fun z hz => ?_, by rw [List.length_append]; show _ + 1 = _; omega, by omega, rfl⟩⟩
      rcases List.mem_append.mp hz with q | q
      · exact h1 z q
      · rw [List.mem_singleton.mp q]; exact hr
    · obtain ⟨hrows, hlen, _, rfl⟩ := iv
      rw [List.length_map, List.length_range, Int.toNat_natCast] at hlen ⊢
      refine ss_cons (st_setLc (i := 5) [("k", 14)] rfl sc_Law.nd (blkOk_by (show blkC NLaw (defScope sLaw) _ _ = true by decide +kernel)) (fun _ _ _ _ _ => pg_name (i := 14) sc_Law.nd rfl (Or.inl rfl)) (og_name (by decide)) (pi_lst (ev_revL (ev_listRg rfl G.list G.range (ev_name (i := 3) rfl (?_))))))
      refine ⟨_, rfl, by omega, by omega, _, .i, _, .inl rfl, ?_⟩
      rw [Int.toNat_natCast]
      refine ⟨fun _ _ => trivial, by simp; omega, fun i acc' t => ∃ ks : List Int, acc' = ks.map D.int ∧ KeysOk m i ks ∧ i ≤ m ∧ t = some (d, n + 1 + 3 * m + i), ⟨[], rfl, ⟨List.Pairwise.nil, (fun x (hx : x ∈ ([] : List Int)) => nomatch hx), Nat.zero_le _⟩, by omega, rfl⟩, fun i x acc' N t hd hN hl iv => ?_, fun acc' t hl iv => ?_⟩
      · obtain ⟨ks, rfl, ko, hi, rfl⟩ := iv
        obtain ⟨lt, rfl⟩ := rev_at hd
        refine tr_name fun s0 H0 Ca cl fp => ?_
        refine et_cmp (ev_fn G.take hr (by decide) (ea_cons (ev_name (i := 1) rfl (ea_cons (ev_int (ea_nil (?_)))))))
        refine ⟨d, 2, _, rfl, rfl, by decide, by decide, by omega, fun r r0 r1 => ?_⟩
        refine ev_int (od_eqI hu ?_)
        refine ⟨_, rfl, rfl, fun hT => ⟨ks, rfl, ⟨ko.desc, fun k hk => ⟨by have := (ko.bnd k hk).1; omega, (ko.bnd k hk).2⟩, by have := ko.len; omega⟩, by omega, rfl⟩, fun hT s0 H0 Ca cl fp => ?_⟩
        refine ev_name (i := 14) rfl ⟨rfl, ks ++ [(m : Int) - 1 - i], by rw [List.map_append]; rfl, ⟨?_, fun k hk => ?_, by rw [List.length_append]; have := ko.len; show _ + 1 ≤ _; omega⟩, by omega, rfl⟩
        · refine List.pairwise_append.mpr ⟨ko.desc, List.pairwise_singleton _ _, fun a ha b hb => ?_⟩
          rw [List.mem_singleton.mp hb]
          have := (ko.bnd a ha).1
          omega
        · rcases List.mem_append.mp hk with q | q
          · have := ko.bnd k q; omega
          · rw [List.mem_singleton.mp q]; omega
      · obtain ⟨ks, rfl, ko, _, rfl⟩ := iv
        rw [List.length_reverse, List.length_map, List.length_range] at ko ⊢
        have k1n : ((k1Of ks).map (·.1)).Nodup := by rw [fst1]; exact ko.nodup
        have k2n : ((k2Of ks).map (·.1)).Nodup := by rw [fst2]; exact ko.nodup
        have kl := ko.len
        have k1l : (k1Of ks).length = ks.length := by unfold k1Of; rw [List.length_map]
        have k2l : (k2Of ks).length = ks.length := by unfold k2Of; rw [List.length_map]
        -- the dicts
        refine ss_cons (st_par (i := 6) (j := 7) rfl sc_Law.nd (ea_cons (ev_callTy G.dict boot_dict (ea_cons (ev_lc [("k", 14)] rfl sc_Law.nd (blkOk_by (show blkC NLaw (defScope sLaw) _ _ = true by decide +kernel)) (fun _ _ _ _ _ => pg_name (i := 14) sc_Law.nd rfl (Or.inl rfl)) (og_name (by decide)) (pi_lst (ev_name (i := 5) rfl (?_))))))))
        refine ⟨_, .inl rfl, fun _ _ => trivial, by rw [List.length_map]; omega, fun i acc' t => acc' = (ks.take i).map (fun k => T2 (.int k) fallB) ∧ t = some (d, n + 1 + 3 * m + m), ⟨rfl, rfl⟩, fun i x acc' N t hd hN hl iv => ?_, fun acc' t hl iv => ?_⟩
        · obtain ⟨rfl, rfl⟩ := iv
          rw [List.getElem?_map] at hd
          cases he : ks[i]? with
          | none => rw [he] at hd; cases hd
          | some k =>
            rw [he] at hd; cases hd
            refine tr_name fun s0 H0 Ca cl fp => ?_
            refine ⟨rfl, fun h => Bool.noConfusion h, fun _ s0 H0 Ca cl fp => ?_⟩
            refine ev_tup (ea_cons (ev_name (i := 14) rfl (ea_cons (ev_tup (ea_cons (ev_int (ea_cons (ev_str (ea_nil (⟨Nat.le_of_ble_eq_true rfl, ea_nil (⟨Nat.le_of_ble_eq_true rfl, ?_⟩)⟩))))))))))
            exact ⟨rfl, by rw [List.take_succ, he, List.map_append]; rfl, rfl⟩
        · obtain ⟨rfl, rfl⟩ := iv
          rw [List.length_map, List.take_length]
          refine ea_nil (cd_dictP rfl (kvs := (k1Of ks).map eK) (.inl (by unfold k1Of; rw [List.map_map, List.map_map]; rfl)) fun pf ff => ?_)
          rw [mergeP_nil (nd_eK k1n)]
          refine ea_cons (ev_callTy G.dict boot_dict (ea_cons (ev_lc [("k", 14)] rfl sc_Law.nd (blkOk_by (show blkC NLaw (defScope sLaw) _ _ = true by decide +kernel)) (fun _ _ _ _ _ => pg_name (i := 14) sc_Law.nd rfl (Or.inl rfl)) (og_name (by decide)) (pi_lst (ev_name (i := 5) rfl (?_))))))
          refine ⟨_, .inl rfl, fun _ _ => trivial, by rw [List.length_map]; omega, fun i acc' t => acc' = (ks.take i).map (fun k => T2 (.int k) (.int k)) ∧ t = some (d, n + 1 + 3 * m + m), ⟨rfl, rfl⟩, fun i x acc' N t hd hN hl iv => ?_, fun acc' t hl iv => ?_⟩
          · obtain ⟨rfl, rfl⟩ := iv
            rw [List.getElem?_map] at hd
            cases he : ks[i]? with
            | none => rw [he] at hd; cases hd
            | some k =>
              rw [he] at hd; cases hd
              refine tr_name fun s0 H0 Ca cl fp => ?_
              refine ⟨rfl, fun h => Bool.noConfusion h, fun _ s0 H0 Ca cl fp => ?_⟩
              refine ev_tup (ea_cons (ev_name (i := 14) rfl (ea_cons (ev_name (i := 14) rfl (ea_nil (⟨Nat.le_of_ble_eq_true rfl, ?_⟩))))))
              exact ⟨rfl, by rw [List.take_succ, he, List.map_append]; rfl, rfl⟩
          · obtain ⟨rfl, rfl⟩ := iv
            rw [List.length_map, List.take_length]
            refine ea_nil (cd_dictP rfl (kvs := (k2Of ks).map eK) (.inl (by unfold k2Of; rw [List.map_map, List.map_map]; rfl)) fun pe fe => ?_)
            rw [mergeP_nil (nd_eK k2n)]
            refine ea_nil (⟨_, _, rfl, ?_⟩)
            obtain ⟨nef, fe⟩ := put_none fe
            refine ss_cut (fun e' N' t' => ∃ heads n', heads.length ≤ 2 ∧ (∀ h ∈ heads, h ∈ boxesD) ∧ n' ≤ n + 1 + 3 * m + m + 1 ∧ t' = some (d, n') ∧ PartsAt N' fW heads acc pf pe (k1Of ks) (k2Of ks) ∧ ∃ b2 b3 b9 b10 b11 b12 b13 b14, e' = [some (.klst (ns.map D.int)), some (.ref d), b2, b3, some (.lst acc), some (.lst (ks.map D.int)), some (.ref pf), some (.ref pe), some (partsD fW heads acc (.ref pf) (.ref pe)), b9, b10, b11, b12, b13, b14]) ?_ ?_
            · refine st_set 8 sc_Law.nd (ev_tup (ea_cons (ev_str (ea_cons (ev_slice (ev_tup (ea_cons (ev_str (ea_cons (ev_str (ea_nil (⟨Nat.le_of_ble_eq_true rfl, ev_fn G.take hr (by decide) (ea_cons (ev_name (i := 1) rfl (ea_cons (ev_int (ea_nil (?_))))))⟩))))))))))))
              refine ⟨d, 3, _, rfl, rfl, by decide, by decide, by omega, fun r r0 r1 => ?_⟩
              refine ⟨_, rfl, ?_⟩
              refine ⟨_, .inr (.inl ⟨_, rfl, rfl⟩), ?_⟩
              refine ea_cons (ev_name (i := 4) rfl (ea_cons (ev_name (i := 6) rfl (ea_cons (ev_name (i := 7) rfl (ea_nil (⟨Nat.le_of_ble_eq_true rfl, ?_⟩)))))))
              obtain ⟨r', rfl⟩ : ∃ r' : Nat, r = (r' : Int) := ⟨r.toNat, by omega⟩
              rw [cut_take]
              have hb : ∀ h ∈ ([S "a", S "b"] : List D).take r', h ∈ boxesD := fun h m => by
                have := List.mem_of_mem_take m
                simp only [List.mem_cons, List.not_mem_nil, or_false] at this
                rcases this with rfl | rfl <;> simp [boxesD]
              have hh2 : (([S "a", S "b"] : List D).take r').length ≤ 2 := by rw [List.length_take]; show min _ 2 ≤ 2; omega
              refine ⟨([S "a", S "b"] : List D).take r', _, hh2, hb, Nat.le_refl _, rfl, ⟨⟨by omega, fun h m => bx_pu (hb h m), by omega, fun r m => row_pu (hrows r m), k1n, k2n, by omega, by omega, ?_, ?_⟩, by decide, by omega, hh2, by omega, by omega, by omega, hrows, ?_, ?_, ?_, put_same⟩, _, _, _, _, _, _, _, _, rfl⟩
              · intro e he
                obtain ⟨k, _, rfl⟩ := List.mem_map.mp he
                exact ⟨rfl, Nat.le_of_ble_eq_true rfl⟩
              · intro e he
                obtain ⟨k, _, rfl⟩ := List.mem_map.mp he
                exact ⟨rfl, Nat.zero_le _⟩
              · intro e he
                obtain ⟨k, _, rfl⟩ := List.mem_map.mp he
                rfl
              · intro e he
                obtain ⟨k, _, rfl⟩ := List.mem_map.mp he
                rfl
              · rw [put_ne (Ne.symm nef), put_same]
            · rintro e' N' t' ⟨heads, n', hh, hb, hn', rfl, pa, b2, b3, b9, b10, b11, b12, b13, b14, rfl⟩
              have gd := pa.good
              obtain ⟨fE, fdE, sE, iE, FE, bE⟩ := G.T.eq
              refine ss_cons (st_set 9 sc_Law.nd (ev_tup (ea_cons (ev_item hu (ev_name (i := 8) rfl (ev_int (?_)))))))
              refine ⟨_, ItD.tu TV.i rfl, ea_cons (ev_item hu (ev_name (i := 8) rfl (ev_int (?_))))⟩
              refine ⟨_, ItD.tu TV.i rfl, ea_cons (ev_callTy G.list boot_list (ea_cons (ev_name (i := 4) rfl (ea_nil (?_)))))⟩
              refine cd_listN (.inl .i) fun l fl => ?_
              refine ea_cons (ev_callTy G.dict boot_dict (ea_cons (ev_name (i := 6) rfl (ea_nil (?_)))))
              refine cd_dictD (.o (by rw [put_ne (nn_ne pa.a1 fl)]; exact pa.a1)) fun a fa => ?_
              refine ea_cons (ev_callTy G.dict boot_dict (ea_cons (ev_name (i := 7) rfl (ea_nil (?_)))))
              obtain ⟨al, fa0⟩ := put_none fa
              refine cd_dictD (.o (by rw [put_ne (nn_ne pa.a2 fa0), put_ne (nn_ne pa.a2 fl)]; exact pa.a2)) fun b fb => ?_
              obtain ⟨ba, fb1⟩ := put_none fb
              obtain ⟨bl, fb0⟩ := put_none fb1
              refine ea_nil (⟨Nat.le_of_ble_eq_true rfl, ?_⟩)
              have le1 := ((NLe.put (d := .lst acc) fl).trans (NLe.put (d := .dk ((k1Of ks).map eK)) fa)).trans (NLe.put (d := .dk ((k2Of ks).map eK)) fb)
              have e1 : put (put (put N' l (.lst acc)) a (.dk ((k1Of ks).map eK))) b (.dk ((k2Of ks).map eK)) l = some (.lst acc) := by rw [put_ne (Ne.symm bl), put_ne (Ne.symm al), put_same]
              have e2 : put (put (put N' l (.lst acc)) a (.dk ((k1Of ks).map eK))) b (.dk ((k2Of ks).map eK)) a = some (.dk ((k1Of ks).map eK)) := by rw [put_ne (Ne.symm ba), put_same]
              have e3 : put (put (put N' l (.lst acc)) a (.dk ((k1Of ks).map eK))) b (.dk ((k2Of ks).map eK)) b = some (.dk ((k2Of ks).map eK)) := put_same
              generalize put (put (put N' l (.lst acc)) a (.dk ((k1Of ks).map eK))) b (.dk ((k2Of ks).map eK)) = N1 at le1 e1 e2 e3 ⊢
              refine ss_cons (st_set 10 sc_Law.nd (ev_fn G.made hr (by decide) (ea_cons (ev_name (i := 9) rfl (ea_nil (?_))))))
              refine ⟨fW, heads, acc, .ref l, .ref a, .ref b, k1Of ks, k2Of ks, rfl, .o e1, gd, NN1 _, NN1 _, .o e2, .o e3, fun q p1 p2 N2 le2 f0 f1 f2 hq h1 h2 => ?_⟩
              -- what was handed in is emptied
              refine ss_cut (fun e' N3 t' => (∀ x y, N2 x = some y → x ≠ l → x ≠ a → x ≠ b → N3 x = some y) ∧ t' = some (d, n') ∧ ∃ b2 b3 b9 b11 b12 b13 b14, e' = [some (.klst (ns.map D.int)), some (.ref d), b2, b3, some (.lst acc), some (.lst (ks.map D.int)), some (.ref pf), some (.ref pe), some (partsD fW heads acc (.ref pf) (.ref pe)), b9, some (.ref q), b11, b12, b13, b14]) ?_ ?_
              · refine st_for PassesOwn.never rfl (pi_tp (ev_slice (ev_name (i := 9) rfl (ev_int (⟨_, rfl, ?_⟩)))))
                refine ⟨_, .inr (.inl ⟨_, rfl, rfl⟩), ?_⟩
                refine ⟨[.ref l, .ref a, .ref b], .inl rfl, ?_⟩
                refine ⟨fun i e' N3 t' => (∀ x y, N2 x = some y → x ≠ l → x ≠ a → x ≠ b → N3 x = some y) ∧ (∃ xs, N3 l = some (.lst xs)) ∧ (∃ xs, N3 a = some (.dk xs)) ∧ (∃ xs, N3 b = some (.dk xs)) ∧ t' = some (d, n') ∧ ∃ b2 b3 b9 b11 b12 b13 b14, e' = [some (.klst (ns.map D.int)), some (.ref d), b2, b3, some (.lst acc), some (.lst (ks.map D.int)), some (.ref pf), some (.ref pe), some (partsD fW heads acc (.ref pf) (.ref pe)), b9, some (.ref q), b11, b12, b13, b14],
                  ⟨fun _ _ h _ _ _ => h, ⟨_, le2 _ _ e1⟩, ⟨_, le2 _ _ e2⟩, ⟨_, le2 _ _ e3⟩, rfl, _, _, _, _, _, _, _, rfl⟩, fun _ _ _ _ _ => trivial, fun i x e' N3 t' hd iv => ?_, fun e' N3 t' iv => ?_⟩
                · obtain ⟨st, ⟨xl, il⟩, ⟨xa, ia⟩, ⟨xb, ib⟩, rfl, c2, c3, c9, c11, c12, c13, c14, rfl⟩ := iv
                  match i, hd with
                  | 0, hd =>
                    cases hd
                    refine tg_name 11 sc_Law.nd ?_
                    refine ss_cons (st_expr (ev_bm0 PySem.F.plainAttrs_list PySem.F.slot_list_clear PySem.F.type_list_clear (ev_name (i := 11) rfl ⟨.inl ⟨rfl, _, .o il⟩, md_clearL il ?_⟩)))
                    exact ss_nil ⟨fun x y h z1 z2 z3 => by rw [put_ne z1]; exact st x y h z1 z2 z3, ⟨_, put_same⟩, ⟨_, by rw [put_ne al]; exact ia⟩, ⟨_, by rw [put_ne bl]; exact ib⟩, rfl, _, _, _, _, _, _, _, rfl⟩
                  | 1, hd =>
                    cases hd
                    refine tg_name 11 sc_Law.nd ?_
                    refine ss_cons (st_expr (ev_bm0 PySem.F.plainAttrs_dict PySem.F.slot_dict_clear PySem.F.type_dict_clear (ev_name (i := 11) rfl ⟨.inr (.inl ⟨rfl, _, rfl, .inl ⟨_, ia⟩⟩), md_clearD ia ?_⟩)))
                    exact ss_nil ⟨fun x y h z1 z2 z3 => by rw [put_ne z2]; exact st x y h z1 z2 z3, ⟨_, by rw [put_ne (Ne.symm al)]; exact il⟩, ⟨_, put_same⟩, ⟨_, by rw [put_ne ba]; exact ib⟩, rfl, _, _, _, _, _, _, _, rfl⟩
                  | 2, hd =>
                    cases hd
                    refine tg_name 11 sc_Law.nd ?_
                    refine ss_cons (st_expr (ev_bm0 PySem.F.plainAttrs_dict PySem.F.slot_dict_clear PySem.F.type_dict_clear (ev_name (i := 11) rfl ⟨.inr (.inl ⟨rfl, _, rfl, .inl ⟨_, ib⟩⟩), md_clearD ib ?_⟩)))
                    exact ss_nil ⟨fun x y h z1 z2 z3 => by rw [put_ne z3]; exact st x y h z1 z2 z3, ⟨_, by rw [put_ne (Ne.symm bl)]; exact il⟩, ⟨_, by rw [put_ne (Ne.symm ba)]; exact ia⟩, ⟨_, put_same⟩, rfl, _, _, _, _, _, _, _, rfl⟩
                · obtain ⟨st, _, _, _, rfl, c2, c3, c9, c11, c12, c13, c14, rfl⟩ := iv
                  exact ⟨st, rfl, _, _, _, _, _, _, _, rfl⟩
              rintro e' N3 t' ⟨st, rfl, c2, c3, c9, c11, c12, c13, c14, rfl⟩
              have ne3 : ∀ {x y}, N1 x = none → N2 x = some y → N3 x = some y := fun {x y} hx hy => st x y hy (fun z => by rw [z, e1] at hx; cases hx) (fun z => by rw [z, e2] at hx; cases hx) (fun z => by rw [z, e3] at hx; cases hx)
              have keep : ∀ {x y}, N' x = some y → N3 x = some y := fun {x y} hx => st x y (le2 _ _ (le1 _ _ hx)) (nn_ne hx fl) (nn_ne hx fa0) (nn_ne hx fb0)
              have hq3 := ne3 f0 hq
              have h13 := ne3 f1 h1
              have h23 := ne3 f2 h2
              have pa3 : PartsAt N3 fW heads acc pf pe (k1Of ks) (k2Of ks) := { pa with a1 := keep pa.a1, a2 := keep pa.a2 }
              have ta3 := tab_made (N := N3) gd hq3 h13 h23
              -- the same once more, by names
              refine ss_cons (st_set 12 sc_Law.nd (ev_makeK0 (gD := fun a b => a ++ b.reverse) M (FI.less (by decide : 2 ≤ 4)) hr G.T.g bB rel_rev (ek_cons (ev_name (i := 7) rfl (ek_cons (ev_name (i := 6) rfl (ek_cons (ev_callTy G.tuple boot_tuple (ea_cons (ev_name (i := 4) rfl (ea_nil (?_))))))))))))
              refine cd_tuple (.inl .i) (ek_cons (ev_item hu (ev_name (i := 8) rfl (ev_int ?_))))
              refine ⟨_, ItD.tu TV.i rfl, ek_cons (ev_str (ek_nil ⟨rfl, fun q4 f4 => ?_⟩))⟩
              show spInit C [.ref q4, .str fW, .tup heads, .tup acc, .ref pf, .ref pe] _ _ _
              refine init_use' f4 (.inr rfl) (.inr ⟨NN1 _, .o pa3.a1⟩) (.inr ⟨NN1 _, .o pa3.a2⟩) gd fun s1 s2 N4 le4 _ _ _ _ hq4 h14 h24 => ?_
              have ta4 := ta3.le le4
              have pa4 := pa3.le le4
              have ts4 := tab_made (N := N4) gd hq4 h14 h24
              refine ss_cons (st_if (et_w (ew_or (et_not (et_val (ev_fn G.fields hr (by decide) (ea_cons (ev_name (i := 10) rfl (ea_cons (ev_name (i := 8) rfl (ea_nil (?_))))))))))))
              have kb : ∀ k ∈ ks, 0 ≤ k ∧ k < 1000 := fun k hk => by have := ko.bnd k hk; omega
              refine ⟨.ref q, heads, acc, pf, pe, k1Of ks, k2Of ks, rfl, pa4, ta4, hb, fun e he => ?_, fun e he => ?_, _, rfl, fun _ => ?_, fun h => Bool.noConfusion h⟩
              · obtain ⟨k, hk, rfl⟩ := List.mem_map.mp he
                exact kb k hk
              · obtain ⟨k, hk, rfl⟩ := List.mem_map.mp he
                exact kb k hk
              refine ew_one (et_not (et_cmp (ev_name (i := 10) rfl (ev_name (i := 12) rfl (?_)))))
              refine od_ownEq (FE.less (by decide : 1 ≤ 5)) hr sE iE bE rfl (.o (le4 _ _ hq3)) (.ins (.o hq4) G.T.ic) G.T.nC ?_
              refine ⟨_, _, _, _, _, _, _, rfl, ta4, .inl ⟨_, _, _, _, _, ts4, fun c hc => ?_⟩⟩
              obtain rfl : c = true := hc.mpr ⟨rfl, rfl, rfl, .refl _, .refl _⟩
              refine ⟨_, rfl, _, rfl, fun h => Bool.noConfusion h, fun _ => ss_nil ?_⟩
              -- others
              refine ss_cut (fun e' N5 t' => NLe N4 N5 ∧ t' = some (d, n' + 2) ∧ ∃ b2 b3 b9 b11 b12 b13 b14, e' = [some (.klst (ns.map D.int)), some (.ref d), b2, b3, some (.lst acc), some (.lst (ks.map D.int)), some (.ref pf), some (.ref pe), some (partsD fW heads acc (.ref pf) (.ref pe)), b9, some (.ref q), b11, b12, b13, b14]) ?_ ?_
              · refine st_for PassesOwn.never rfl (pi_lst (ev_lst (ea_cons (ev_fn G.made hr (by decide) (ea_cons (ev_fn G.other hr (by decide) (ea_cons (ev_name (i := 1) rfl (ea_cons (ev_name (i := 8) rfl (ea_nil (?_))))))))))))
                refine ⟨d, n', fW, heads, acc, pf, pe, _, _, rfl, rfl, by omega, pa4, fun w' h' l' x y k1' k2' N5 le5 gd' dx dy nx ny dif => ea_nil ?_⟩
                refine ⟨w', h', l', .lst l', x, y, k1', k2', rfl, .i, gd', nx, ny, dx, dy, fun q6 r1 r2 N6 le6 _ _ _ hq6 h16 h26 => ?_⟩
                refine ea_cons (ev_non (ea_cons (ev_name (i := 8) rfl (ea_cons (ev_item hu (ev_name (i := 8) rfl (ev_int ?_)))))))
                refine ⟨_, ItD.tu TV.i rfl, ea_cons (ev_callTy G.tuple boot_tuple (ea_cons (ev_name (i := 4) rfl (ea_nil (cd_tuple (.inl .i) ?_)))))⟩
                refine ea_nil ⟨Nat.le_of_ble_eq_true rfl, _, .inl rfl, ?_⟩
                have le46 := le5.trans le6
                have to6 := tab_made (N := N6) gd' hq6 h16 h26
                have ta6 := ta4.le le46
                refine ⟨fun i e' N7 t' => N7 = N6 ∧ t' = some (d, n' + 2) ∧ ∃ b2 b3 b9 b11 b12 b13 b14, e' = [some (.klst (ns.map D.int)), some (.ref d), b2, b3, some (.lst acc), some (.lst (ks.map D.int)), some (.ref pf), some (.ref pe), some (partsD fW heads acc (.ref pf) (.ref pe)), b9, some (.ref q), b11, b12, b13, b14],
                  ⟨rfl, rfl, _, _, _, _, _, _, _, rfl⟩, fun _ _ _ _ _ => trivial, fun i x e' N7 t' hd iv => ?_, fun e' N7 t' iv => ?_⟩
                · obtain ⟨rfl, rfl, c2, c3, c9, c11, c12, c13, c14, rfl⟩ := iv
                  refine tg_name 11 sc_Law.nd ?_
                  refine ss_cons (st_if (et_cmp (ev_name (i := 10) rfl (ev_name (i := 11) rfl (?_)))))
                  have go : ∀ ty, TyDx K N7 x ty → PySem.W.notFirst K C ty = true → ((∃ name' params' rows' k1'' k2'', TabAt N7 C x name' params' rows' k1'' k2'' ∧ ¬(D.str fW = name' ∧ D.tup heads = params' ∧ acc = rows' ∧ (sK (k1Of ks)).Perm k1'' ∧ (sK (k2Of ks)).Perm k2'')) ∨ PySem.W.kitOne K ty (.ref C) = some false) →
                      ∀ {Pp : D → NN → Tau → Prop}, Pp (.bl false) N7 (some (d, n' + 2)) → spEqT K C [.ref q, x] N7 (some (d, n' + 2)) fun d' N' t' => ∃ b, d' = .bl b ∧ Pp (.bl b) N' t' := by
                    intro ty hty hn hx Pp hPp
                    refine ⟨_, _, _, _, _, _, _, rfl, ta6, ?_⟩
                    rcases hx with ⟨a1, a2, a3, a4, a5, tx, nx⟩ | hk
                    · refine .inl ⟨_, _, _, _, _, tx, fun c hc => ⟨c, rfl, ?_⟩⟩
                      have : c = false := by
                        cases c with
                        | false => rfl
                        | true => exact absurd (hc.mp rfl) nx
                      rw [this]; exact hPp
                    · exact .inr ⟨ty, hty, hk, _, rfl, hPp⟩
                  have hx : ∃ ty, TyDx K N7 x ty ∧ PySem.W.notFirst K C ty = true ∧ ((∃ name' params' rows' k1'' k2'', TabAt N7 C x name' params' rows' k1'' k2'' ∧ ¬(D.str fW = name' ∧ D.tup heads = params' ∧ acc = rows' ∧ (sK (k1Of ks)).Perm k1'' ∧ (sK (k2Of ks)).Perm k2'')) ∨ PySem.W.kitOne K ty (.ref C) = some false) := by
                    match i, hd with
                    | 0, hd =>
                      cases hd
                      refine ⟨.ref C, .ins (.o hq6) G.T.ic, G.T.nC, .inl ⟨_, _, _, _, _, to6, fun h => dif ?_⟩⟩
                      obtain ⟨z1, z2, z3, z4, z5⟩ := h
                      exact ⟨D.str.inj z1, D.tup.inj z2, z3, (sK_perm _).symm.trans (z4.trans (sK_perm _)), (sK_perm _).symm.trans (z5.trans (sK_perm _))⟩
                    | 1, hd => cases hd; exact ⟨_, .non, G.T.nN, .inr G.T.kN⟩
                    | 2, hd => cases hd; exact ⟨_, .tup _, G.T.nT, .inr G.T.kT⟩
                    | 3, hd => cases hd; exact ⟨_, .str _, G.T.nS, .inr G.T.kS⟩
                    | 4, hd => cases hd; exact ⟨_, .tup _, G.T.nT, .inr G.T.kT⟩
                  obtain ⟨ty, y1, y2, y3⟩ := hx
                  exact od_ownEq (FE.less (by decide : 1 ≤ 5)) hr sE iE bE rfl (.o (le46 _ _ (le4 _ _ hq3))) y1 y2 (go ty y1 y2 y3 ⟨_, rfl, fun h => Bool.noConfusion h, fun _ => ss_nil (ss_nil ⟨rfl, rfl, _, _, _, _, _, _, _, rfl⟩)⟩)
                · obtain ⟨rfl, rfl, c2, c3, c9, c11, c12, c13, c14, rfl⟩ := iv
                  exact ⟨le46, rfl, _, _, _, _, _, _, _, rfl⟩
              rintro e' N5 t' ⟨le5, rfl, c2, c3, c9, c11, c12, c13, c14, rfl⟩
              have hq5 := le5 _ _ (le4 _ _ hq3)
              have ta5 := ta4.le le5
              have gd0 : GoodP heads acc [] [] := { gd with n1 := List.nodup_nil, n2 := List.nodup_nil, l1 := by decide, l2 := by decide, v1 := (fun e (he : e ∈ ([] : List (Int × D))) => nomatch he), v2 := (fun e (he : e ∈ ([] : List (Int × D))) => nomatch he) }
              refine ss_cons (st_set 13 sc_Law.nd (ev_make M (FI.less (by decide : 2 ≤ 4)) hr G.T.g bC vd0 (fun I => .cons .non (.cons .non .nil)) (ea_cons (ev_str (ea_cons (ev_item hu (ev_name (i := 8) rfl (ev_int ?_))))))))
              refine ⟨_, ItD.tu TV.i rfl, ea_cons (ev_name (i := 4) rfl (ea_nil ⟨rfl, fun q6 f6 => ?_⟩))⟩
              show spInit C [.ref q6, .str fW, .tup heads, .lst acc, .non, .non] _ _ _
              refine init_use' f6 (.inl .i) (.inl ⟨rfl, rfl⟩) (.inl ⟨rfl, rfl⟩) gd0 fun u1 u2 N6 le6 _ _ _ u12 hq6 h16 h26 => ?_
              have ta6 := ta5.le le6
              have tb6 := tab_made (N := N6) gd0 hq6 h16 h26
              have hu1 := h16
              have hu2 := h26
              rw [sk0] at hu1 hu2
              refine ss_cons (st_if (et_w (ew_or (et_cmp (ev_fld (ev_name (i := 13) rfl ⟨_, _, _, .o hq6, G.T.tc.cls, G.T.tc.n4, lk_lands, ev_dictN fun v fv => ?_⟩))))))
              have lv := NLe.put (d := .dk []) fv
              refine od_neD0 hu (lv _ _ hu1) put_same ⟨_, rfl, fun _ => ?_, fun h => Bool.noConfusion h⟩
              refine ew_or (et_cmp (ev_fld (ev_name (i := 13) rfl ⟨_, _, _, .o (lv _ _ hq6), G.T.tc.cls, G.T.tc.n5, lk_closes, ev_dictN fun v2 fv2 => ?_⟩)))
              have lv2 := lv.trans (NLe.put (d := .dk []) fv2)
              refine od_neD0 hu (lv2 _ _ hu2) put_same ⟨_, rfl, fun _ => ?_, fun h => Bool.noConfusion h⟩
              refine ew_one (et_cmp (ev_cmp (ev_name (i := 13) rfl (ev_name (i := 10) rfl (?_)))))
              have tb7 := tb6.le lv2
              have ta7 := ta6.le lv2
              have hq7 := lv2 _ _ hq6
              have ho7 := lv2 _ _ (le6 _ _ hq5)
              have hu17 := lv2 _ _ hu1
              generalize put (put N6 v (.dk [])) v2 (.dk []) = N7 at tb7 ta7 hq7 ho7 hu17 ⊢
              refine od_ownEq (FE.less (by decide : 1 ≤ 5)) hr sE iE bE rfl (.o hq7) (.ins (.o ho7) G.T.ic) G.T.nC ?_
              refine ⟨_, _, _, _, _, _, _, rfl, tb7, .inl ⟨_, _, _, _, _, ta7, fun c hc => ⟨c, rfl, ?_⟩⟩⟩
              refine ev_cmp (ev_name (i := 5) rfl (ev_lst (ea_nil (⟨Nat.le_of_ble_eq_true rfl, ?_⟩))))
              refine od_eqNil hu .i .i (od_neB hu ⟨_, rfl, fun hT => ?_, fun _ => ss_nil ?_⟩)
              · exfalso
                have ce : c = (ks.map D.int).isEmpty := by
                  cases ks with
                  | nil => exact hc.mpr ⟨rfl, rfl, rfl, .refl _, .refl _⟩
                  | cons k kr =>
                    cases c with
                    | false => rfl
                    | true =>
                      have := (hc.mp rfl).2.2.2.1.length_eq
                      rw [(sK_perm _).length_eq, (sK_perm _).length_eq] at this
                      simp [k1Of] at this
                rw [ce] at hT
                simp at hT
              refine ss_cons (st_dput hu (ev_tup (ea_cons (ev_int (ea_cons (ev_str (ea_nil (⟨Nat.le_of_ble_eq_true rfl, ev_fld (ev_name (i := 13) rfl (?_))⟩))))))))
              refine ⟨_, _, _, .o hq7, G.T.tc.cls, G.T.tc.n4, lk_lands, ev_int ?_⟩
              refine .inl ⟨u1, _, Sum.inl 0, rfl, hu17, rfl, by decide, ?_⟩
              refine ss_cons (st_if (et_cmp (ev_fld (ev_make M (FI.less (by decide : 2 ≤ 4)) hr G.T.g bC vd0 (fun I => .cons .non (.cons .non .nil)) (ea_cons (ev_str (ea_cons (ev_item hu (ev_name (i := 8) rfl (ev_int ?_))))))))))
              refine ⟨_, ItD.tu TV.i rfl, ea_cons (ev_name (i := 4) rfl (ea_nil ⟨rfl, fun q8 f8 => ?_⟩))⟩
              show spInit C [.ref q8, .str fW, .tup heads, .lst acc, .non, .non] _ _ _
              refine init_use' f8 (.inl .i) (.inl ⟨rfl, rfl⟩) (.inl ⟨rfl, rfl⟩) gd0 fun w1 w2 N8 le8 _ _ _ _ hq8 h18 h28 => ?_
              refine ⟨_, _, _, .o hq8, G.T.tc.cls, G.T.tc.n4, lk_lands, ev_dictN fun v3 fv3 => ?_⟩
              rw [sk0] at h18
              refine od_neD0 hu (NLe.put (d := .dk []) fv3 _ _ h18) put_same ⟨_, rfl, fun h => Bool.noConfusion h, fun _ => ss_nil (ss_nil ?_)⟩
              exact ⟨by omega, ⟨n' + 2, rfl, by omega⟩, _, _, _, _, _, _, _, _, _, _, _, _, _, rfl⟩
  · exact ss_cons (st_ret (ev_bl (hP _ _)))
end
end K26
/-! a law's end, for defs whose callers' guards are known -/
namespace Y
open PySem PySem.Spec PyProof.Rows L2
section
variable {P : Program} {w : World} {K : PySem.W.Frag} {mg mb : Str → Option Value} {CX : CXT} {k : Nat} {fa a : Addr} {fd : FuncData} {x : Str} {sp : Sp} {z : Shared} {vs : List Value} {ns : List Int}
/-- from an abstract heap in which at most the script stands -/
theorem law_from (inK : K.In z.heap) (glob : z.heap.Ns mainGlobals mg) (blt : z.heap.Ns builtinsNs mb) (std : ∀ x : Str, x ≠ "__name__" → mb x = bootBuiltins x) (lms : z.heap.NoLimit) (ng : z.gens = #[])
    (obj : z.heap.get? a = some { cls := .type "list", data := .seq vs.toArray }) (rm : Rm k callerA)
    (F : ∀ base : Heap, K.In base → base.Ns mainGlobals mg → FnG P w K mg base CX k fa fd [x] sp) (bnd : ∀ (s : Shared) (u : Value), BindsTo s fd ⟨[u], []⟩ [(x, u)])
    (noX : ∀ H e s', CX [] H z (fun _ _ _ => False) e s' → False) (H : Hp) (only : Only H) (sat : sp [.ref a] H (fun v _ => v = .bl true) fun _ _ _ => False) (hok : HOk P w H z.heap) (one : ∀ b, H b ≠ none → b = a) (out : H a ≠ none → K.lookup a = none) :
    codeAny (model P w) callerA (.call (.ref fa) ⟨[.ref a], []⟩) (fun r s' => r = .ok (.ret (.bool true)) ∧ OldK z.heap s'.heap ∧ s'.os = z.os ∧ AllBare s'.gens) z := by
  have get0 : ∀ {b : Addr} {o : Obj}, z.heap.get? b = some o → H b = none → (hidT z.heap H).get? b = some o := hidT_get
  -- a dict is never the script
  have dicts : ∀ {b : Addr} {o : Obj} {es : Array DictEntry} {ep : Nat}, z.heap.get? b = some o → o.data = .dict es ep → H b = none := by
    intro b o es ep e1 e2
    match q : H b with
    | none => rfl
    | some _ =>
      have hb := one b (by rw [q]; exact fun h => nomatch h)
      rw [hb, obj] at e1
      injection e1 with e1
      rw [← e1] at e2
      nomatch e2
  have spaces : ∀ {b : Addr} {m : Str → Option Value}, z.heap.Ns b m → (hidT z.heap H).Ns b m := by
    rintro b m ⟨o, es, ep, e1, e2, r⟩
    exact ⟨o, es, ep, get0 e1 (dicts e1 e2), e2, r⟩
  have inB : K.In (hidT z.heap H) := by
    intro b o e
    refine get0 (inK b o e) ?_
    match q : H b with
    | none => rfl
    | some u =>
      have hb := one b (by rw [q]; exact fun h => nomatch h)
      rw [hb] at e q
      have := out (by rw [q]; exact fun h => nomatch h)
      rw [this] at e
      nomatch e
  have modB : Mod K mg (hidT z.heap H) := by
    obtain ⟨mc, c1, c2⟩ := lms
    exact ⟨inB, spaces glob, ⟨mb, spaces blt, std⟩, ⟨mc, spaces c1, c2⟩⟩
  have env0 : Env0 P w K mg (hidT z.heap H) callerA [] z H :=
    { frames := rfl, mod := modB, bs := fun _ _ e => of_hidT e, bsz := Nat.le_of_eq (hidT_size _ _), funs := trivial, frf := fun _ hb => (List.not_mem_nil hb).elim, hok := hok, bare := AllBare.of_eq ng }
  refine codeAny_mono ((F _ inB (spaces glob)).go callerA [] z H ⟨[.ref a], []⟩ [.ref a] [.ref a] _ _ rm env0 (bnd z (.ref a)) (Paired.cons rfl Paired.nil) sat) ?_
  intro r s' h
  match r, h with
  | .error e, h => exact (noX H e s' h).elim
  | .ok (.ret u), ⟨v, H', os, bare, un, hok', rv, q⟩ =>
    have q : v = V.bl true := q
    subst q
    have hu : u = Value.bool true := rv
    subst hu
    refine ⟨rfl, OldK.of_keep ?_, os, bare⟩
    intro b o e
    match q : H b with
    | none => exact un.keep b o e q (fun h => (List.not_mem_nil h).elim) (fun h => (List.not_mem_nil h).elim)
    | some u =>
      rcases only b with n | ⟨ob, xs, n⟩
      · rw [q] at n; nomatch n
      · obtain ⟨g1, _⟩ := hok b _ n
        obtain ⟨g2, _⟩ := hok' b _ (un.frzs b ob _ n)
        rw [e] at g1
        injection g1 with g1
        rw [g1]; exact g2
theorem law_callG (inK : K.In z.heap) (glob : z.heap.Ns mainGlobals mg) (blt : z.heap.Ns builtinsNs mb) (std : ∀ x : Str, x ≠ "__name__" → mb x = bootBuiltins x) (lms : z.heap.NoLimit) (ng : z.gens = #[])
    (obj : z.heap.get? a = some { cls := .type "list", data := .seq vs.toArray }) (hi : IntsAre vs ns) (hl : ns.length ≤ sizeLine) (rm : Rm k callerA)
    (F : ∀ base : Heap, K.In base → base.Ns mainGlobals mg → FnG P w K mg base CX k fa fd [x] sp) (bnd : ∀ (s : Shared) (u : Value), BindsTo s fd ⟨[u], []⟩ [(x, u)])
    (sat : ∀ H : Hp, Only H → SqL K H a (ns.map V.int) → sp [.ref a] H (fun v _ => v = .bl true) fun _ _ _ => False) (noX : ∀ H e s', CX [] H z (fun _ _ _ => False) e s' → False) :
    codeAny (model P w) callerA (.call (.ref fa) ⟨[.ref a], []⟩) (fun r s' => r = .ok (.ret (.bool true)) ∧ OldK z.heap s'.heap ∧ s'.os = z.os ∧ AllBare s'.gens) z := by
  have rel := vals_ints hi
  have same := hi.length
  have go := law_from (sp := sp) inK glob blt std lms ng obj rm F bnd noX
  match q : K.lookup a with
  | some o =>
    have e := inK a o q
    rw [obj] at e
    injection e with e
    subst e
    refine go (fun _ => none) (fun _ => .inl rfl) (sat _ (fun _ => .inl rfl) (.inr ⟨_, vs.toArray, 0, q, rfl, rfl, rfl, ?_, by simpa using rel⟩)) (fun b u h => nomatch (show (none : Option HO) = some u from h)) (fun b h => (h rfl).elim) fun h => (h rfl).elim
    rw [List.size_toArray, same]; exact hl
  | none =>
    have hH : ∀ b, (if b = a then some (HO.frz { cls := .type "list", data := .seq vs.toArray } (.lst (ns.map V.int))) else none) = (none : Option HO) ∨ b = a := fun b => by
      by_cases e : b = a
      · exact .inr e
      · exact .inl (if_neg e)
    have only : Only fun b => if b = a then some (HO.frz { cls := .type "list", data := .seq vs.toArray } (.lst (ns.map V.int))) else none := fun b => by
      rcases hH b with h | h
      · exact .inl h
      · exact .inr ⟨_, _, if_pos h⟩
    refine go _ only (sat _ only (.inl (.inr ⟨_, if_pos rfl⟩))) (fun b u h => ?_) (fun b h => ?_) fun _ => q
    · rcases hH b with n | n
      · rw [n] at h; nomatch h
      · subst n
        rw [if_pos rfl] at h
        injection h with h
        subst h
        exact ⟨obj, by rw [List.length_map]; exact hl, vs, 0, rel, obj⟩
    · rcases hH b with n | n
      · exact absurd n h
      · exact n
end
/-- the walk of a law -/
theorem walk_ofG {l : PySem.W.OpenLaw} {n k : Nat} {q : Program} {loose : List Str} {XP : (Str → Option Value) → Heap → Prop} {YP : World → Heap → Prop} {d : DefRec} {CX : CXT} {x : Str} (hn : l.most = some n) (hn2 : n ≤ sizeLine) (hdf : d.params.defaults = []) (rm : Rm k callerA)
    (F : ∀ (w : World) (mg : Str → Option Value) (fa : Addr) (h : Heap), YP w h → h.Ns mainGlobals mg → mg d.name = some (.ref fa) →
      ∃ (K : PySem.W.Frag) (fd : FuncData) (sp : Sp), K.In h ∧ (∀ (s : Shared) (u : Value), BindsTo s fd ⟨[u], []⟩ [(x, u)]) ∧
        (∀ (H : Hp) (a : Addr) (ns : List Int), ns.length ≤ n → Only H → SqL K H a (ns.map V.int) → sp [.ref a] H (fun v _ => v = .bl true) fun _ _ _ => False) ∧ ∀ base : Heap, K.In base → base.Ns mainGlobals mg → FnG l.prog w K mg base CX k fa fd [x] sp)
    (noX : ∀ (H : Hp) (s : Shared) (e : Value) (s' : Shared), CX [] H s (fun _ _ _ => False) e s' → False) : PySem.W.WalkO q loose XP YP l.row.toRowW d [] (fun f vs => PySem.call f vs) := by
  refine Att.attach_call hn hdf ?_
  intro w s₀ s₁ mg mb fa o pm cd doc a vs ns G Y ho hd hcd hmg hobj hints hlen hg
  obtain ⟨K, fd, sp, inK, bnd, sat, FF⟩ := F w mg fa _ Y G.T.g hmg
  exact law_callG inK G.T.g G.T.b G.T.builtins G.T.nolimit hg hobj hints (Nat.le_trans hlen hn2) rm FF bnd (fun H hO hS => sat H a ns hlen hO hS) fun H e s' => noX H s₁ e s'
end Y
namespace K26
open PySem PySem.Spec PyProof.Rows L2 Y
section
variable {K : PySem.W.Frag} {f : Addr} {fd : FuncData}
theorem b1 {x : Str} {st : Stmt} {p1 : Str} (F : FnP K x st f fd) (h : (defArgs st).args.map (·.arg) = [p1] := by rfl) (hh : ∀ (kV doc pm : Value) (an : Option Addr) (cdv ct : Value) (us : List Value), us.length = [p1].length → bindArgs (PySem.W.fnOf x x (defArgs st) (defBody st) (defScope st) .none kV doc pm an cdv ct) ⟨us, []⟩ = pure ([p1].zip us)) : Binds K fd [p1] [] := F.bindsN hh
abbrev kwsI : List (Str × V) := [("lands", V.non), ("closes", V.non)]
abbrev FnI (K : PySem.W.Frag) (f : Addr) (fd : FuncData) : Prop := FunD K "__init__" "Table.__init__" (defArgs sInit) (defBody sInit) (defScope sInit) [] kwsI f fd
theorem bindA (F : FnI K f fd) : KBn K fd psI 4 ["lands", "closes"] (fun us ws => us ++ ws) (fun vs zs => vs ++ zs) := by
  obtain ⟨mv, h⟩ := FunD.kbinds0 (ps := psI) F 4 ["lands", "closes"] [] (fun us _ ws => us ++ ws) (by simp) (by simp) (fun a _ c => Vals.append a c) fun D doc pm an cdv ct us mv ws h1 h2 h3 => match us, h1, ws, h3 with
    | [_, _, _, _], _, [_, _], _ => rfl
  exact h
theorem bindB (F : FnI K f fd) : KBn K fd psI 1 ["closes", "lands", "rows", "params", "name"] (fun us ws => us ++ ws.reverse) (fun vs zs => vs ++ zs.reverse) := by
  obtain ⟨mv, h⟩ := FunD.kbinds0 (ps := psI) F 1 ["closes", "lands", "rows", "params", "name"] [] (fun us _ ws => us ++ ws.reverse) (by simp) (by simp) (fun a _ c => Vals.append a (by
      have rev : ∀ {vs : List V} {us : List Value}, Vals vs us → Vals vs.reverse us.reverse := by
        intro vs us h
        induction h with
        | nil => exact .nil
        | cons x _ ih => rw [List.reverse_cons, List.reverse_cons]; exact Vals.append ih (.cons x .nil)
      exact rev c)) fun D doc pm an cdv ct us mv ws h1 h2 h3 => match us, h1, ws, h3 with
    | [_], _, [_, _, _, _, _], _ => rfl
  exact h
theorem bindC (F : FnI K f fd) : ∃ ds0, Vals [V.non, V.non] ds0 ∧ Binds K fd psI ds0 := by
  exact FunD.binds0 (ps := psI) F 4 (by simp) rfl fun D doc pm an cdv ct us ks h1 h2 => match us, h1, ks, h2 with
    | [_, _, _, _], _, [_, _], _ => ⟨_, _, _, _, _, _, rfl, rfl, ⟨_, _, _, _, _, _, rfl, rfl, rfl⟩⟩
end
/-! the head -/
def dd (x : Str) (st : Stmt) : He.DefD := ⟨(x, none), x, x, defArgs st, defBody st, defScope st, [], []⟩
def dInit : He.DefD := ⟨("Table", some "__init__"), "__init__", "Table.__init__", defArgs sInit, defBody sInit, defScope sInit, [], [("lands", .non), ("closes", .non)]⟩
def dEq : He.DefD := ⟨("Table", some "__eq__"), "__eq__", "Table.__eq__", defArgs sEq, defBody sEq, defScope sEq, [], []⟩
def fn : List He.DefD := [dd "by_keys" sBy, dInit, dEq, dd "_law_begun" sBegun, dd "_law_take" sTake, dd "_law_pick" sPick, dd "_law_row" sRow, dd "_law_other" sOther, dd "_law_made" sMade, dd "_law_fields_right" sFields, dd "law" sLaw]
def fa : List He.Fa := [.glo "by_keys", .glo "Table", .glo "_law_begun", .glo "_law_take", .glo "_law_pick", .glo "_law_row", .glo "_law_other", .glo "_law_made", .glo "_law_fields_right", .glo "law",
  .free "sorted", .free "tuple", .free "isinstance", .free "len", .free "repr", .free "list", .free "dict", .free "range", .free "max", .free "min",
  .cls "Table", .noat "Table" "name", .noat "Table" "params", .noat "Table" "rows", .noat "Table" "lands", .noat "Table" "closes", .meth "Table" "__eq__", .mkr "Table"]
/-- what else is asked of the class -/
def exB (K : PySem.W.Frag) : Bool :=
  decide (PySem.W.kitOne K (.type "NoneType") (.ref (He.ga K "Table")) = some false) && (decide (PySem.W.kitOne K (.type "tuple") (.ref (He.ga K "Table")) = some false) && (decide (PySem.W.kitOne K (.type "str") (.ref (He.ga K "Table")) = some false) &&
  (PySem.W.notFirst K (He.ga K "Table") (.ref (He.ga K "Table")) && (PySem.W.notFirst K (He.ga K "Table") (.type "NoneType") && (PySem.W.notFirst K (He.ga K "Table") (.type "tuple") && (PySem.W.notFirst K (He.ga K "Table") (.type "str") &&
  (He.eqO (PySem.W.findIn K (.ref (He.ga K "Table")) "__class__") (some (some (.builtin "object.__class__"))) && (He.eqO (PySem.W.specialIn K (.builtin "object.__class__") "__get__") (some (some (.builtin "getset_descriptor.__get__"))) &&
  (decide (PySem.W.takesIn K (.builtin "object.__class__") = some true) && decide (PySem.W.mroIn K (He.ga K "Table") (.type "object") = some true))))))))))
abbrev R : PySem.W.OpenRow := PySem.W.OpenLaw.row PySem.Challenge.rw_frozenmakers_k26_tables_told
abbrev hk : PySem.W.Hook := He.hookX 5 fa fn [] [] exB
def ob (s : PySem.W.SharedT) : He.AlX := He.obsX 5 fa fn [] [] exB (HandSHeadRun.getT s)
theorem ob_eq (s : PySem.W.SharedT) : ob s = hk.obs s.abs := He.obsX_eq (HandSHeadRun.getT_eq s)
abbrev loose : List Str := ["by_keys", "Table", "_law_begun", "_law_take", "_law_pick", "_law_row", "_law_other", "_law_made", "_law_fields_right"]
theorem run (w : World) : HandSHeadRun.RunEq R (PySem.W.view R.prog [11]) hk ob 3000 loose w := by
  intro os
  kernel_rfl
theorem facts {P : Program} {w : World} {K : PySem.W.Frag} {h : Heap} {mg : Str → Option Value} {f : Addr} (X : K.In h) (G : h.Ns mainGlobals mg) (hfa : mg ("law" : Str) = some (.ref f)) (c : He.SaysX fa fn [] [] exB w h K) :
    ∃ fd : FuncData, (∀ (s : Shared) (v : Value), BindsTo s fd ⟨[v], []⟩ [("script", v)]) ∧ ∀ base : Heap, K.In base → base.Ns mainGlobals mg → FnG P w K mg base CX0 6 f fd ["script"] (Fsp (JS K) K spLaw) := by
  have cd := c.t.d
  obtain ⟨fd0, F0⟩ := cd.def_ 0 (d := dd "by_keys" sBy) rfl
  obtain ⟨fd1, F1⟩ := cd.def_ 1 (d := dInit) rfl
  obtain ⟨fd2, F2⟩ := cd.def_ 2 (d := dEq) rfl
  obtain ⟨fd3, F3⟩ := cd.def_ 3 (d := dd "_law_begun" sBegun) rfl
  obtain ⟨fd4, F4⟩ := cd.def_ 4 (d := dd "_law_take" sTake) rfl
  obtain ⟨fd5, F5⟩ := cd.def_ 5 (d := dd "_law_pick" sPick) rfl
  obtain ⟨fd6, F6⟩ := cd.def_ 6 (d := dd "_law_row" sRow) rfl
  obtain ⟨fd7, F7⟩ := cd.def_ 7 (d := dd "_law_other" sOther) rfl
  obtain ⟨fd8, F8⟩ := cd.def_ 8 (d := dd "_law_made" sMade) rfl
  obtain ⟨fd9, F9⟩ := cd.def_ 9 (d := dd "_law_fields_right" sFields) rfl
  obtain ⟨fd10, F10⟩ := cd.def_ 10 (d := dd "law" sLaw) rfl
  have g : ∀ (i : Nat) {x : Str}, fa[i]? = some (.glo x) → mg x = some (.ref (He.ga K x)) := fun i x e => He.glo_ok X G (cd.fact i (f := .glo x) e)
  have fr : ∀ (i : Nat) {x : Str}, fa[i]? = some (.free x) → mg x = none := fun i x e => He.free_ok X G (cd.fact i (f := .free x) e)
  have e := hfa.symm.trans (g 9 (x := "law") rfl)
  cases e
  have b := FunD.bindsA (ps := ["script"]) F10 fun _ _ _ _ _ _ us hl => match us, hl with | [_], _ => rfl
  have tc : TabC K (He.ga K "Table") := ⟨He.cls_ok (cd.fact 20 (f := .cls "Table") rfl), He.noat_ok (cd.fact 21 (f := .noat "Table" "name") rfl), He.noat_ok (cd.fact 22 (f := .noat "Table" "params") rfl), He.noat_ok (cd.fact 23 (f := .noat "Table" "rows") rfl), He.noat_ok (cd.fact 24 (f := .noat "Table" "lands") rfl), He.noat_ok (cd.fact 25 (f := .noat "Table" "closes") rfl)⟩
  have mt := He.meth_ok (cd.fact 26 (f := .meth "Table" "__eq__") rfl)
  have mk := He.mkr_ok (cd.fact 27 (f := .mkr "Table") rfl)
  have more := c.more
  unfold exB at more
  simp only [Bool.and_eq_true, decide_eq_true_eq] at more
  obtain ⟨x1, x2, x3, x4, x5, x6, x7, x8, x9, x10, x11⟩ := more
  have ic : InsC K (He.ga K "Table") := ⟨tc.cls, He.eqO_ok x8, He.eqO_ok x9, x10, x11⟩
  refine ⟨fd10, fun s v => b s [v] rfl, fun base _ _ => ?_⟩
  have B1 : ∀ {f : Addr} {fd : FuncData} {x : Str} {st : Stmt} {p : Str} (F : FnP K x st f fd), (∀ (kV doc pm : Value) (an : Option Addr) (cdv ct : Value) (us : List Value), us.length = [p].length → bindArgs (PySem.W.fnOf x x (defArgs st) (defBody st) (defScope st) .none kV doc pm an cdv ct) ⟨us, []⟩ = pure ([p].zip us)) → Binds K fd [p] [] := fun F h => F.bindsN h
  have bBy : Binds K fd0 ["told"] [] := FunD.bindsN F0 fun _ _ _ _ _ _ us hl => match us, hl with | [_], _ => rfl
  have okBy := ok_by (P := P) (w := w) (mg := mg) (base := base) (J := JS K) F0 (fr 10 rfl)
  have T : TabG P w K mg base (He.ga K "Table") := {
    tc := tc, ic := ic, g := g 1 rfl
    ini := ⟨_, fd1, mk, ok_init F1 tc (fr 11 rfl) okBy (g 0 rfl) F0.kp bBy, bindA F1, bindB F1, bindC F1⟩
    eq := ⟨_, fd2, mt.at_, mt.fn, ok_eq F2 tc ic (fr 12 rfl) (g 1 rfl), FunD.bindsN F2 fun _ _ _ _ _ _ us hl => match us, hl with | [_, _], _ => rfl⟩
    kN := x1, kT := x2, kS := x3, nC := x4, nN := x5, nT := x6, nS := x7 }
  have take : Fn P w K mg base 1 "_law_take" ["state", "many"] spTake := ⟨_, fd4, ok_take F4 (fr 13 rfl), g 3 rfl, F4.kp, FunD.bindsN F4 fun _ _ _ _ _ _ us hl => match us, hl with | [_, _], _ => rfl⟩
  have pick : Fn P w K mg base 2 "_law_pick" ["state", "some"] spPick := ⟨_, fd5, ok_pick take (fr 13 rfl) F5, g 4 rfl, F5.kp, FunD.bindsN F5 fun _ _ _ _ _ _ us hl => match us, hl with | [_, _], _ => rfl⟩
  have row : Fn P w K mg base 3 "_law_row" ["state", "many"] spRow := ⟨_, fd6, ok_row take pick F6, g 5 rfl, F6.kp, FunD.bindsN F6 fun _ _ _ _ _ _ us hl => match us, hl with | [_, _], _ => rfl⟩
  have other : Fn P w K mg base 2 "_law_other" ["state", "parts"] spOther := ⟨_, fd7, ok_other take (fr 13 rfl) (fr 16 rfl) F7, g 6 rfl, F7.kp, FunD.bindsN F7 fun _ _ _ _ _ _ us hl => match us, hl with | [_, _], _ => rfl⟩
  have made : Fn P w K mg base 4 "_law_made" ["parts"] (spMade (He.ga K "Table")) := ⟨_, fd8, ok_made T F8, g 7 rfl, F8.kp, FunD.bindsN F8 fun _ _ _ _ _ _ us hl => match us, hl with | [_], _ => rfl⟩
  have fields : Fn P w K mg base 2 "_law_fields_right" ["one", "parts"] (spFields (He.ga K "Table")) := ⟨_, fd9, ok_fields T (fr 14 rfl) (fr 11 rfl) (fr 15 rfl) (fr 10 rfl) F9, g 8 rfl, F9.kp, FunD.bindsN F9 fun _ _ _ _ _ _ us hl => match us, hl with | [_, _], _ => rfl⟩
  have begun : Fn P w K mg base 1 "_law_begun" ["script"] spBegun := ⟨_, fd3, ok_begun F3, g 2 rfl, F3.kp, FunD.bindsN F3 fun _ _ _ _ _ _ us hl => match us, hl with | [_], _ => rfl⟩
  exact ok_law { T := T, begun := begun, take := take, row := row, other := other, made := made, fields := fields, range := fr 17 rfl, max := fr 18 rfl, min := fr 19 rfl, len := fr 13 rfl, list := fr 15 rfl, dict := fr 16 rfl, tuple := fr 11 rfl } F10
end K26
open PySem PySem.W PySem.Calls PyProof.Rows
theorem PySem.Challenge.cw_frozenmakers_k26_tables_told_holds : PySem.Challenge.rw_frozenmakers_k26_tables_told.Holds := by
  w_on; o_law
  refine HandSHeadRun.head_any (r := K26.R) (q := view K26.R.prog [11]) (H := K26.hk) (ob := K26.ob) (M := 3000) (loose := K26.loose) (d := HandSHeadRun.topDef K26.R.prog 11) (kwd := []) K26.ob_eq
    (by kernel_rfl) (fun s => by kernel_rfl) K26.run (by kernel_rfl) (by kernel_rfl) (by kernel_rfl) (by rfl) (by first | assumption | decide +kernel) (by decide +kernel) ⟨rfl, rfl, rfl, rfl, rfl, by decide +kernel⟩ ?hw ?hc
  case hw => w_witness2
  case hc =>
    refine Y.walk_ofG (l := PySem.Challenge.rw_frozenmakers_k26_tables_told) (n := 63) (k := 6) (x := "script") (CX := L2.CX0) rfl (by decide) (by kernel_rfl) ⟨⟨rfl, by decide, by decide⟩, rfl⟩ ?F (fun _ _ _ _ z => z)
    intro w mg fa h Y0 G hmg0
    obtain ⟨K, KX, c⟩ := Y0
    have hmg : mg ("law" : PySem.Str) = some (.ref fa) := by
      have e : (HandSHeadRun.topDef K26.R.prog 11).name = ("law" : PySem.Str) := by kernel_rfl
      rw [← e]
      exact hmg0
    obtain ⟨fd, hb, hF⟩ := K26.facts (P := (PySem.Challenge.rw_frozenmakers_k26_tables_told).prog) (w := w) KX G hmg c
    refine ⟨K, fd, Y.Fsp (K26.JS K) K K26.spLaw, KX, hb, fun H a ns hl _ hS => ?_, hF⟩
    refine ⟨H, Y.N0, none, [.klst (ns.map Y.D.int)], fun d _ _ => d = .bl true, ⟨Y.Ex.refl H, (fun p d e => nomatch e), ⟨fun _ => none, ⟨Y.N0, rfl, (fun p d e => nomatch e), fun _ _ => rfl⟩, fun a o e => nomatch e⟩⟩, ?_, ⟨ns, rfl, hl, rfl, fun _ _ => rfl⟩, ?_⟩
    · exact .cons (.klst hS (Y.RA.ints ns)) .nil
    · intro v d I' N' t' H' _ _ r e
      subst e
      exact r.bl_inv
