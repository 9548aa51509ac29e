import PyProof.Rows.All
import HandS.Dict
import HandS.SetKeys
import HandS.Iter
import KE.KDictKeyed
import KE.KeyNested
import HandS.ForMost
import HandS.Walk
import HandS.Wide
import HandS.WideBits
import HandS.TupAny
import HandS.IsInst
import HandS.SortInts
import HandS.Zip
import HandS.Style
import KE.GoesMore
import PyProof.EnumMake
import HandS.Text
import KE.OsArith
import KE.BitLaws
import HandS.TupLen
import KE.KDictWalk
import KE.KDictExact
import KE.SortKeyed
import HandS.Exc
import HandS.ExcOwn
import HandS.TryMany
import HandS.Lambda
import HandS.ExcIs
import HandS.WordsExc
import PySem.Challenge.RW_walkorkeeper_k13_whole_kin_stands_by_sum
import KE.DatumOrd
import HandS.EndTab
import HandS.HeadWalk
import KE.KNestM
import Wide.All
import OpenK.AllK
import Wide.FinOn
set_option Elab.async false
set_option linter.all false
set_option maxRecDepth 100000
/-! DL0: dicts whose keys are tuples of any depth, over HandS. -/
namespace DL
open PySem PySem.Spec PyProof.Rows L2
abbrev NK := NestedKey
abbrev NV : List (NK × Addr × V) → List (NK × Addr × Value) → Prop := Paired fun p q => p.1 = q.1 ∧ p.2.1 = q.2.1 ∧ RelV p.2.2 q.2.2
def RawN (w : World) (h : Heap) (a : Addr) (xs : List (NK × Addr × Value)) : Prop :=
  ∃ o es ep, h.get? a = some o ∧ o.ExactDict ∧ o.data = .dict es ep ∧ es.toList = xs.map (fun x => (⟨x.1.hash w, .ref x.2.1, x.2.2⟩ : DictEntry)) ∧ (xs.map (·.1)).Nodup
/-- the dict at a, its keys with where they stand, its values -/
def dicO (w : World) (a : Addr) (kvs : List (NK × Addr × V)) : HO := .ext fun h => kvs.length ≤ sizeLine ∧ (a == sysModules) = false ∧ ∃ xs, NV kvs xs ∧ RawN w h a xs
def lookN (kvs : List (NK × Addr × V)) (k : NK) : Option V := (kvs.find? fun p => decide (p.1 = k)).map (·.2.2)
def putN (kvs : List (NK × Addr × V)) (k : NK) (b : Addr) (v : V) : List (NK × Addr × V) :=
  if (lookN kvs k).isSome then kvs.map (fun p => if p.1 = k then (p.1, p.2.1, v) else p) else kvs ++ [(k, b, v)]
theorem lookN_pos {p : NK × Addr × V} {r : List (NK × Addr × V)} {k : NK} (e : p.1 = k) : lookN (p :: r) k = some p.2.2 := by simp [lookN, List.find?_cons, e]
theorem lookN_neg {p : NK × Addr × V} {r : List (NK × Addr × V)} {k : NK} (e : ¬ p.1 = k) : lookN (p :: r) k = lookN r k := by simp [lookN, List.find?_cons, e]
theorem putN_len (kvs : List (NK × Addr × V)) (k : NK) (b : Addr) (v : V) : (putN kvs k b v).length ≤ kvs.length + 1 := by
  unfold putN
  split
  · rw [List.length_map]; exact Nat.le_succ _
  · rw [List.length_append]; exact Nat.le_refl _
theorem NV.look {kvs : List (NK × Addr × V)} {xs : List (NK × Addr × Value)} (r : NV kvs xs) (k : NK) : RelO (lookN kvs k) ((atKey xs k).map (·.2)) := by
  induction r with
  | nil => exact True.intro
  | @cons p q ps qs h t ih =>
    obtain ⟨h1, _, h2⟩ := h
    by_cases e : p.1 = k
    · have e' : q.1 = k := h1.symm.trans e
      have b : atKey (q :: qs) k = some q.2 := by simp [atKey, List.find?_cons, e']
      rw [lookN_pos e, b]; exact h2
    · have e' : ¬ q.1 = k := fun z => e (h1.trans z)
      have b : atKey (q :: qs) k = atKey qs k := by simp [atKey, List.find?_cons, e']
      rw [lookN_neg e, b]; exact ih
theorem NV.repl {kvs : List (NK × Addr × V)} {xs : List (NK × Addr × Value)} (r : NV kvs xs) (k : NK) {y : V} {u : Value} (ry : RelV y u) :
    NV (kvs.map fun p => if p.1 = k then (p.1, p.2.1, y) else p) (xs.map (putAt k u)) := by
  induction r with
  | nil => exact .nil
  | @cons p q ps qs h t ih =>
    rw [List.map_cons, List.map_cons]
    refine .cons ?_ ih
    obtain ⟨h1, h2, h3⟩ := h
    unfold putAt
    by_cases e : p.1 = k
    · rw [if_pos e, if_pos (h1.symm.trans e)]; exact ⟨h1, h2, ry⟩
    · rw [if_neg e, if_neg (fun z => e (h1.trans z))]; exact ⟨h1, h2, h3⟩
theorem NV.put {kvs : List (NK × Addr × V)} {xs : List (NK × Addr × Value)} (r : NV kvs xs) (k : NK) {b : Addr} {y : V} {u : Value} (ry : RelV y u) : NV (putN kvs k b y) (storedH xs k b u) := by
  have e : (lookN kvs k).isSome = (atKey xs k).isSome := by
    rw [(r.look k).isSome_eq, Option.isSome_map]
  unfold putN storedH
  rw [e]
  by_cases q : (atKey xs k).isSome = true
  · rw [if_pos q, if_pos q]; exact r.repl k ry
  · rw [if_neg q, if_neg q]; exact Paired.snoc r ⟨rfl, rfl, ry⟩
theorem NV.len {kvs : List (NK × Addr × V)} {xs : List (NK × Addr × Value)} (r : NV kvs xs) : kvs.length = xs.length := Paired.length r
theorem RawN.stay {w : World} {h h' : Heap} {a : Addr} {xs : List (NK × Addr × Value)} (x : RawN w h a xs) (k : ∀ o, h.get? a = some o → h'.get? a = some o) : RawN w h' a xs := by
  obtain ⟨o, es, ep, e, r⟩ := x
  exact ⟨o, es, ep, k o e, r⟩
theorem dicO_ok {P : Program} {w : World} {H : Hp} {h : Heap} {a : Addr} {kvs : List (NK × Addr × V)} {xs : List (NK × Addr × Value)} (z : kvs.length ≤ sizeLine) (hd : (a == sysModules) = false) (r : NV kvs xs) (x : RawN w h a xs) : ObjOk P w H h a (dicO w a kvs) := by
  refine ⟨⟨z, hd, xs, r, x⟩, ?_, fun h1 h2 q k => ?_⟩
  · obtain ⟨o, _, _, e, _⟩ := x
    exact ⟨o, e⟩
  · obtain ⟨z, hd, xs, r, x⟩ := q
    exact ⟨z, hd, xs, r, x.stay k⟩
/-- a key, in every state of X -/
def NkOk (X : Cx) (H : Hp) (k : NK) (b : Addr) : Prop := k.depth ≤ 8 ∧ ∀ (pins : List (Addr × Obj)) (σ : L2.St) (s : Shared), Inv X pins σ H s → NestedIs s.heap k (.ref b)
def NksOk (X : Cx) (H : Hp) (kvs : List (NK × Addr × V)) : Prop := ∀ p ∈ kvs, NkOk X H p.1 p.2.1
section
variable {X : Cx} {pins : List (Addr × Obj)} {σ : L2.St} {H : Hp} {s : Shared} {a b : Addr} {kvs : List (NK × Addr × V)} {k : NK} {A : Around} {E : Value → Shared → Prop}
theorem dn_at (I : Inv X pins σ H s) (e : H a = some (dicO X.w a kvs)) (ks : NksOk X H kvs) : kvs.length ≤ sizeLine ∧ (a == sysModules) = false ∧ ∃ xs, NV kvs xs ∧ s.heap.DictOfH (nestedKind X.prog X.w) a xs := by
  obtain ⟨⟨z, hd, xs, r, o, es, ep, h1, h2, h3, h4, h5⟩, _⟩ := (show ObjOk X.prog X.w H s.heap a (dicO X.w a kvs) from I.hok a _ e)
  refine ⟨z, hd, xs, r, o, es, ep, h1, h2, h3, h4, ?_, h5⟩
  have all : ∀ {l : List (NK × Addr × V)} {m : List (NK × Addr × Value)}, NksOk X H l → NV l m → ∀ x ∈ m, (nestedKind X.prog X.w).is s.heap x.1 x.2.1 := by
    intro l m kl q
    induction q with
    | nil => intro x hx; exact nomatch hx
    | @cons p q ps qs hq t ih =>
      intro x hx
      rcases List.mem_cons.mp hx with e | hx
      · subst e
        have q1 := kl p List.mem_cons_self
        rw [← hq.1, ← hq.2.1]
        exact ⟨q1.2 pins σ s I, q1.1⟩
      · exact ih (fun p hp => kl p (List.mem_cons_of_mem _ hp)) x hx
  exact all ks r
theorem dn_in {Q : Value → Shared → Prop} (hu : A.units + 9 < cLine) (I : Inv X pins σ H s) (e : H a = some (dicO X.w a kvs)) (ks : NksOk X H kvs) (hk : NkOk X H k b) (h : ∀ s', Inv X pins σ H s' → Q (.bool (!(lookN kvs k).isSome)) s') :
    wpAny (model X.prog X.w) A (compareOp .NotIn (.ref b) (.ref a)) Q E s := by
  obtain ⟨z, hd, xs, rel, dd⟩ := dn_at I e ks
  refine notIn_keyed (knd := nestedKind X.prog X.w) (by show A.in1.units + 8 < cLine; rw [Around.in1_units]; omega) ⟨hk.2 _ _ _ I, hk.1⟩ hd ⟨xs, dd, rfl⟩ ?_
  have q := (rel.look k).isSome_eq
  rw [valueAt_pairsH, ← q]
  exact h _ (I.tok _)
theorem dn_get {v : V} {Q : Value → Shared → Prop} (hu : A.units + 9 < cLine) (I : Inv X pins σ H s) (e : H a = some (dicO X.w a kvs)) (ks : NksOk X H kvs) (hk : NkOk X H k b) (l : lookN kvs k = some v) (h : ∀ w' s', Inv X pins σ H s' → RelV v w' → Q w' s') :
    wpAny (model X.prog X.w) A (getItem (.ref a) (.ref b)) Q E s := by
  obtain ⟨z, hd, xs, rel, dd⟩ := dn_at I e ks
  obtain ⟨w', hw, rw'⟩ := RelO.some_of (v := v) (o := (atKey xs k).map (·.2)) (by rw [← l]; exact rel.look k)
  exact getItem_keyed (knd := nestedKind X.prog X.w) (by show A.in1.units + 8 < cLine; rw [Around.in1_units]; omega) ⟨hk.2 _ _ _ I, hk.1⟩ ⟨xs, dd, rfl⟩ (by rw [valueAt_pairsH]; exact hw) (h w' _ (I.tok _) rw')
theorem dn_getOr {d : V} {r : Value} {Q : Value → Shared → Prop} (hu : A.units + 9 < cLine) (I : Inv X pins σ H s) (e : H a = some (dicO X.w a kvs)) (ks : NksOk X H kvs) (hk : NkOk X H k b) (rd : RelV d r) (h : ∀ w' s', Inv X pins σ H s' → RelV ((lookN kvs k).getD d) w' → Q w' s') :
    wpAny (model X.prog X.w) A (call (.builtin "dict.get") [.ref a, .ref b, r]) Q E s := by
  obtain ⟨z, hd, xs, rel, dd⟩ := dn_at I e ks
  refine getOr_keyed (knd := nestedKind X.prog X.w) (by show A.in1.units + 8 < cLine; rw [Around.in1_units]; omega) ⟨hk.2 _ _ _ I, hk.1⟩ hd ⟨xs, dd, rfl⟩ ?_
  rw [valueAt_pairsH]
  exact h _ _ (I.tok _) ((rel.look k).getD rd)
theorem dn_set {v : V} {r : Value} {Q : Unit → Shared → Prop} (hu : A.units + 9 < cLine) (I : Inv X pins σ H s) (e : H a = some (dicO X.w a kvs)) (ks : NksOk X H kvs) (hk : NkOk X H k b) (rv : RelV v r) (hl : kvs.length < sizeLine) (h : ∀ s', Inv X pins σ (upd H a (dicO X.w a (putN kvs k b v))) s' → Q () s') :
    wpAny (model X.prog X.w) A (setItem (.ref a) (.ref b) r) Q E s := by
  obtain ⟨z, hd, xs, rel, dd⟩ := dn_at I e ks
  refine wpAny_setItem_heap (knd := nestedKind X.prog X.w) (hsz := by rw [← rel.len]; exact z) (by show A.in1.units + 8 < cLine; rw [Around.in1_units]; omega) ⟨hk.2 _ _ _ I, hk.1⟩ dd fun h' dd' hs => h _ ?_
  obtain ⟨q, es, ep, hq, h2, h3, h4, _, h5⟩ := dd'
  have := putN_len kvs k b v
  exact d_write I (by rw [e]; exact True.intro) hs ⟨q, hq⟩ (dicO_ok (by omega) hd (rel.put k rv) ⟨q, es, ep, hq, h2, h3, h4, h5⟩)
end
end DL
set_option Elab.async false
set_option linter.all false
set_option maxRecDepth 100000
/-! DL1: a layer of plain data over HandS: judgements without a heap in the goals. -/
namespace DL
open PySem PySem.Spec PyProof.Rows L2

/-- plain data -/
inductive D where
  | non | bl (b : Bool) | int (i : Int) | str (x : Str)
  | lst (l : List D) | tup (l : List D)
  | ins (C : Addr) (ns : List Str) (ds : List D)
  | hand | raw (v : V)
  /-- a dict that stands still, by its values -/
  | vals (l : List D)
  /-- a list of ints that is read alone -/
  | frl (l : List Int)

/-- d is v in the heap S (hd: where the one volatile list stands) -/
def Rep (K : PySem.W.Frag) (hd : Option Addr) (S : Hp) : D → V → Prop
  | .non, v => v = .non
  | .bl b, v => v = .bl b
  | .int i, v => v = .int i
  | .str x, v => v = .str x
  | .lst l, v => ∃ a xs, v = .ref a ∧ S a = some (.lst xs) ∧ Reps K hd S l xs
  | .tup l, v => ∃ a xs, v = .ref a ∧ SqT K S a xs ∧ Reps K hd S l xs
  | .ins C ns ds, v => ∃ a dx xs, v = .ref a ∧ S a = some (.ins C dx (ns.zip xs)) ∧ ns.length = xs.length ∧ Reps K hd S ds xs
  | .hand, v => ∃ a, hd = some a ∧ v = .ref a
  | .frl l, v => ∃ a, v = .ref a ∧ SqL K S a (l.map V.int)
  | .raw u, v => v = u
  | .vals l, v => ∃ a od, v = .ref a ∧ ((∃ q : List (Key × V), S a = some (.frz od (.dK q)) ∧ Reps K hd S l (q.map (·.2))) ∨ ∃ (w : World) (q : List (NK × Addr × V)), S a = some (.frz od (dicO w a q)) ∧ Reps K hd S l (q.map (·.2.2)))
where
  Reps (K : PySem.W.Frag) (hd : Option Addr) (S : Hp) : List D → List V → Prop
  | [], xs => xs = []
  | d :: ds, xs => ∃ x r, xs = x :: r ∧ Rep K hd S d x ∧ Reps K hd S ds r
abbrev Reps := @Rep.Reps

def Same.sqT {K : PySem.W.Frag} {H H' : Hp} {a : Addr} {xs : List V} (e : Same H H') (h : SqT K H a xs) : SqT K H' a xs := by
  rcases h with (h | ⟨o, h⟩) | h
  · exact .inl (.inl (e _ _ h))
  · exact .inl (.inr ⟨o, e _ _ h⟩)
  · exact .inr h

def Same.sqL {K : PySem.W.Frag} {H H' : Hp} {a : Addr} {xs : List V} (e : Same H H') (h : SqL K H a xs) : SqL K H' a xs := by
  rcases h with (h | ⟨o, h⟩) | h
  · exact .inl (.inl (e _ _ h))
  · exact .inl (.inr ⟨o, e _ _ h⟩)
  · exact .inr h
section
variable {K : PySem.W.Frag} {hd : Option Addr} {S S' : Hp}
mutual
theorem Rep.mono (e : Same S S') : ∀ {d : D} {v : V}, Rep K hd S d v → Rep K hd S' d v
  | .non, _, h => h
  | .bl _, _, h => h
  | .int _, _, h => h
  | .str _, _, h => h
  | .lst l, v, h => by
    obtain ⟨a, xs, h1, h2, h3⟩ := h
    exact ⟨a, xs, h1, e _ _ h2, Reps.mono e h3⟩
  | .tup l, v, h => by
    obtain ⟨a, xs, h1, h2, h3⟩ := h
    exact ⟨a, xs, h1, Same.sqT e h2, Reps.mono e h3⟩
  | .ins C ns ds, v, h => by
    obtain ⟨a, dx, xs, h1, h2, h3, h4⟩ := h
    exact ⟨a, dx, xs, h1, e _ _ h2, h3, Reps.mono e h4⟩
  | .hand, _, h => h
  | .raw _, _, h => h
  | .frl l, v, h => by
    obtain ⟨a, h1, h2⟩ := h
    exact ⟨a, h1, Same.sqL e h2⟩
  | .vals l, v, h => by
    obtain ⟨a, od, h1, h2⟩ := h
    rcases h2 with ⟨q, h2, h3⟩ | ⟨w, q, h2, h3⟩
    · exact ⟨a, od, h1, .inl ⟨q, e _ _ h2, Reps.mono e h3⟩⟩
    · exact ⟨a, od, h1, .inr ⟨w, q, e _ _ h2, Reps.mono e h3⟩⟩
theorem Reps.mono (e : Same S S') : ∀ {l : List D} {xs : List V}, Reps K hd S l xs → Reps K hd S' l xs
  | [], _, h => h
  | d :: ds, xs, h => by
    obtain ⟨x, r, h1, h2, h3⟩ := h
    exact ⟨x, r, h1, Rep.mono e h2, Reps.mono e h3⟩
end
theorem Reps.length : ∀ {l : List D} {xs : List V}, Reps K hd S l xs → l.length = xs.length
  | [], _, h => by
    have h : _ = [] := h
    rw [h]
    rfl
  | d :: ds, xs, h => by
    obtain ⟨x, r, h1, h2, h3⟩ := h
    rw [h1, List.length_cons, List.length_cons, Reps.length h3]
theorem Reps.nil : Reps K hd S [] [] := rfl
theorem Reps.cons {d : D} {v : V} {l : List D} {xs : List V} (h : Rep K hd S d v) (t : Reps K hd S l xs) : Reps K hd S (d :: l) (v :: xs) := ⟨v, xs, rfl, h, t⟩
theorem Reps.app : ∀ {l m : List D} {xs ys : List V}, Reps K hd S l xs → Reps K hd S m ys → Reps K hd S (l ++ m) (xs ++ ys)
  | [], _, _, _, h, t => by
    have h : _ = [] := h
    rw [h]
    exact t
  | d :: ds, _, _, _, h, t => by
    obtain ⟨x, r, h1, h2, h3⟩ := h
    rw [h1]
    exact ⟨x, _, rfl, h2, Reps.app h3 t⟩
theorem Reps.get : ∀ {l : List D} {xs : List V} {i : Nat} {d : D}, Reps K hd S l xs → l[i]? = some d → ∃ v, xs[i]? = some v ∧ Rep K hd S d v
  | [], _, _, _, _, e => by simp at e
  | d :: ds, _, 0, _, h, e => by
    obtain ⟨x, r, h1, h2, h3⟩ := h
    simp at e
    subst e
    rw [h1]
    exact ⟨x, rfl, h2⟩
  | d :: ds, _, i + 1, _, h, e => by
    obtain ⟨x, r, h1, h2, h3⟩ := h
    rw [h1]
    obtain ⟨v, a, b⟩ := Reps.get (i := i) h3 (by simpa using e)
    exact ⟨v, by simpa using a, b⟩
theorem Reps.get' : ∀ {l : List D} {xs : List V} {i : Nat} {v : V}, Reps K hd S l xs → xs[i]? = some v → ∃ d, l[i]? = some d ∧ Rep K hd S d v
  | [], _, _, _, h, e => by
    have h : _ = [] := h
    rw [h] at e
    simp at e
  | d :: ds, _, 0, _, h, e => by
    obtain ⟨x, r, h1, h2, h3⟩ := h
    rw [h1] at e
    simp at e
    subst e
    exact ⟨d, rfl, h2⟩
  | d :: ds, _, i + 1, _, h, e => by
    obtain ⟨x, r, h1, h2, h3⟩ := h
    rw [h1] at e
    obtain ⟨v, a, b⟩ := Reps.get' (i := i) h3 (by simpa using e)
    exact ⟨v, by simpa using a, b⟩
theorem Reps.set : ∀ {l : List D} {xs : List V} {i : Nat} {d : D} {v : V}, Reps K hd S l xs → Rep K hd S d v → Reps K hd S (l.set i d) (xs.set i v)
  | [], _, _, _, _, h, r => by
    have h : _ = [] := h
    rw [h]
    exact rfl
  | d :: ds, _, 0, _, _, h, r => by
    obtain ⟨x, t, h1, h2, h3⟩ := h
    rw [h1]
    exact ⟨_, _, rfl, r, h3⟩
  | d :: ds, _, i + 1, _, _, h, r => by
    obtain ⟨x, t, h1, h2, h3⟩ := h
    rw [h1]
    exact ⟨_, _, rfl, h2, Reps.set h3 r⟩
theorem Reps.take : ∀ {l : List D} {xs : List V} (i : Nat), Reps K hd S l xs → Reps K hd S (l.take i) (xs.take i)
  | [], _, i, h => by
    have h : _ = [] := h
    rw [h, List.take_nil, List.take_nil]
    exact rfl
  | d :: ds, _, 0, h => rfl
  | d :: ds, _, i + 1, h => by
    obtain ⟨x, t, h1, h2, h3⟩ := h
    rw [h1]
    exact ⟨_, _, rfl, h2, Reps.take i h3⟩
theorem Reps.drop : ∀ {l : List D} {xs : List V} (i : Nat), Reps K hd S l xs → Reps K hd S (l.drop i) (xs.drop i)
  | [], _, i, h => by
    have h : _ = [] := h
    rw [h, List.drop_nil, List.drop_nil]
    exact rfl
  | d :: ds, _, 0, h => h
  | d :: ds, _, i + 1, h => by
    obtain ⟨x, t, h1, h2, h3⟩ := h
    rw [h1]
    exact Reps.drop i h3
/-- ints alone -/
theorem Reps.ints : ∀ {l : List Int} {xs : List V}, Reps K hd S (l.map D.int) xs → xs = l.map V.int
  | [], _, h => h
  | d :: ds, xs, h => by
    obtain ⟨x, r, h1, h2, h3⟩ := h
    have h2 : x = .int d := h2
    rw [h1, h2, Reps.ints h3]
    rfl
theorem Reps.of_ints : ∀ (l : List Int), Reps K hd S (l.map D.int) (l.map V.int)
  | [] => rfl
  | d :: ds => ⟨_, _, rfl, rfl, Reps.of_ints ds⟩
end

/-- flat data hang on no heap -/
def D.flat : D → Bool
  | .non => true | .bl _ => true | .int _ => true | .str _ => true | .raw _ => true | .hand => true
  | _ => false
theorem Rep.flat {K : PySem.W.Frag} {hd : Option Addr} {S S' : Hp} {d : D} {v : V} (h : d.flat = true) (r : Rep K hd S d v) : Rep K hd S' d v := by
  cases d with
  | lst _ => cases h
  | tup _ => cases h
  | ins _ _ _ => cases h
  | vals _ => cases h
  | frl _ => cases h
  | _ => exact r

/-! ### keys -/
/-- a thing up to == -/
def D.nk : D → NK
  | .int i => .num i
  | .bl b => .num (if b = true then 1 else 0)
  | .str x => .text x
  | .tup l => .tup (nks l)
  | _ => .none
where
  nks : List D → List NK
  | [] => []
  | d :: ds => D.nk d :: nks ds
abbrev nks := D.nk.nks
/-- None, ints, bools, texts, and tuples of such -/
def D.isNk : D → Bool
  | .non => true
  | .int _ => true
  | .bl _ => true
  | .str _ => true
  | .tup l => allNk l
  | _ => false
where
  allNk : List D → Bool
  | [] => true
  | d :: ds => D.isNk d && allNk ds
def D.isT : D → Bool
  | .tup _ => true
  | _ => false
/-- a key of a dict whose keys are tuples -/
def D.keyT (d : D) : Prop := d.isT = true ∧ d.isNk = true ∧ d.nk.depth ≤ 8
/-- what a dict holds at a key -/
def lookD (kvs : List (D × D)) (k : NK) : Option D := (kvs.find? fun p => decide (p.1.nk = k)).map (·.2)
/-- in its place, or at the end -/
def putD (kvs : List (D × D)) (k v : D) : List (D × D) := if (lookD kvs k.nk).isSome then kvs.map (fun p => if p.1.nk = k.nk then (p.1, v) else p) else kvs ++ [(k, v)]
def PK (K : PySem.W.Frag) (hd : Option Addr) (S : Hp) : List (D × D) → List (Key × V) → Prop := Paired fun p q => (∃ i, p.1 = .int i ∧ q.1 = Sum.inl i) ∧ Rep K hd S p.2 q.2
def PN (K : PySem.W.Frag) (hd : Option Addr) (S : Hp) : List (D × D) → List (NK × Addr × V) → Prop := Paired fun p q => p.1.nk = q.1 ∧ p.1.keyT ∧ Rep K hd S p.1 (.ref q.2.1) ∧ Rep K hd S p.2 q.2.2

/-! ### the world -/
/-- what the volatile list (cells, place, left, mix, count) is worth -/
def HandAt (c : Addr) (S H : Hp) (a : Addr) : Prop := ∃ (cells : List Int) (i left mix n : Int), H a = some (.lst [.ref c, .int i, .int left, .int mix, .int n]) ∧ S c = some (.lst (cells.map V.int)) ∧
  (∀ x ∈ cells, 0 ≤ x ∧ x < 10 ^ 36) ∧ 0 ≤ i ∧ 0 ≤ left ∧ left < 10 ^ 36 ∧ 0 ≤ mix ∧ mix < 2 ^ 40 ∧ 0 ≤ n
def HandOk (hd : Option Addr) (c : Addr) (S H : Hp) : Prop := ∀ a, hd = some a → HandAt c S H a
/-- all that H tracks stands, but what is volatile -/
def But (hd : Option Addr) (H H' : Hp) : Prop := ∀ b o, H b = some o → hd ≠ some b → H' b = some o
theorem But.refl (hd : Option Addr) (H : Hp) : But hd H H := fun _ _ h _ => h
theorem But.trans {hd : Option Addr} {H H1 H2 : Hp} (a : But hd H H1) (b : But hd H1 H2) : But hd H H2 := fun c o h n => b c o (a c o h n) n
theorem But.of {hd : Option Addr} {H H' : Hp} (e : Same H H') : But hd H H' := fun b o h _ => e b o h
structure Ent where
  hd : Option Addr
  hc : Addr
  S0 : Hp
  H0 : Hp
structure Wld (K : PySem.W.Frag) (E : Ent) (S H : Hp) : Prop where
  sh : Same S H
  s0 : Same E.S0 S
  hand : HandOk E.hd E.hc S H
  nh : ∀ a, E.hd = some a → S a = none
  fr : But E.hd E.H0 H
  nw : ∀ b o, S b = some o → E.S0 b = none → E.H0 b = none
structure Go (K : PySem.W.Frag) (E : Ent) (S H S' H' : Hp) : Prop where
  s : Same S S'
  h : But E.hd H H'
  nw : ∀ b o, S' b = some o → S b = none → H b = none
  w : Wld K E S' H'
section
variable {K : PySem.W.Frag} {E : Ent} {S H S' H' S2 H2 : Hp}
theorem Go.refl (w : Wld K E S H) : Go K E S H S H := ⟨Same.refl _, But.refl _ _, fun b o h n => (by rw [n] at h; cases h), w⟩
theorem HandOk.there {a : Addr} (h : HandOk E.hd E.hc S H) (e : E.hd = .some a) : ∃ o, H a = .some o := by
  obtain ⟨cells, i, l, m, n, q, _⟩ := h a e
  exact ⟨_, q⟩
theorem Go.trans (g : Go K E S H S' H') (g2 : Go K E S' H' S2 H2) : Go K E S H S2 H2 := by
  refine ⟨g.s.trans g2.s, g.h.trans g2.h, fun b o h n => ?_, g2.w⟩
  cases q : S' b with
  | some u => exact g.nw b u q n
  | none =>
    have z := g2.nw b o h q
    cases r : H b with
    | none => rfl
    | some u =>
      by_cases e : E.hd = .some b
      · obtain ⟨u', q'⟩ := g.w.hand.there e
        rw [z] at q'
        cases q'
      · rw [g.h b u r e] at z
        cases z
/-- nothing new is shared -/
theorem Wld.keep (w : Wld K E S H) (h : But E.hd H H') (hh : HandOk E.hd E.hc S H') : Wld K E S H' :=
  ⟨fun b o e => h b o (w.sh b o e) (fun q => by rw [w.nh b q] at e; cases e), w.s0, hh, w.nh, w.fr.trans h, w.nw⟩
theorem Wld.go_keep (w : Wld K E S H) (h : But E.hd H H') (hh : HandOk E.hd E.hc S H') : Go K E S H S H' :=
  ⟨Same.refl _, h, fun b o e n => (by rw [n] at e; cases e), w.keep h hh⟩
theorem HandAt.same {a c : Addr} (h : HandAt c S H a) (e1 : Same S S') (e : ∀ o, H a = some o → H' a = some o) : HandAt c S' H' a := by
  obtain ⟨cells, i, l, m, n, q, q2, q3⟩ := h
  exact ⟨cells, i, l, m, n, e _ q, e1 _ _ q2, q3⟩
theorem HandOk.same {hd : Option Addr} {c : Addr} (h : HandOk hd c S H) (e1 : Same S S') (e : ∀ a o, hd = some a → H a = some o → H' a = some o) : HandOk hd c S' H' := fun a q => (h a q).same e1 fun o => e a o q
/-- a new object, shared at once -/
theorem Wld.new {p : Addr} {o : HO} (w : Wld K E S H) (hp : H p = none) : Go K E S H (upd S p o) (upd H p o) := by
  have sp : S p = none := w.sh.free hp
  have eH : Same H (upd H p o) := fun b u e => by rw [upd_ne (ne_of_none e hp)]; exact e
  have eS : Same S (upd S p o) := fun b u e => by rw [upd_ne (ne_of_none e sp)]; exact e
  have npd : E.hd ≠ some p := fun q => by
    obtain ⟨u, q'⟩ := w.hand.there q
    rw [hp] at q'
    cases q'
  refine ⟨eS, But.of eH, fun b u e n => ?_, fun b u e => ?_, w.s0.trans eS, w.hand.same eS (fun a o _ q => eH a o q), fun a q => ?_, w.fr.trans (But.of eH), fun b u e n => ?_⟩
  · by_cases z : b = p
    · rw [z]; exact hp
    · rw [upd_ne z, n] at e
      cases e
  · by_cases z : b = p
    · subst z
      rw [upd_same] at e ⊢
      exact e
    · rw [upd_ne z] at e ⊢
      exact w.sh b u e
  · rw [upd_ne (fun z => npd (by rw [← z]; exact q))]
    exact w.nh a q
  · by_cases z : b = p
    · subst z
      cases r : E.H0 b with
      | none => rfl
      | some v =>
        rw [w.fr b v r npd] at hp
        cases hp
    · rw [upd_ne z] at e
      exact w.nw b u e n
/-- a new object that is not shared -/
theorem Wld.fresh {p : Addr} {o : HO} (w : Wld K E S H) (hp : H p = none) : Go K E S H S (upd H p o) := by
  have eH : Same H (upd H p o) := fun b u e => by rw [upd_ne (ne_of_none e hp)]; exact e
  exact w.go_keep (But.of eH) (w.hand.same (Same.refl _) fun a o _ q => eH a o q)
end

/-! ### slots -/
/-- what a local's own, unshared object holds -/
inductive Ob where
  | lst (l : List D)
  | ins (x C : Addr) (ns : List Str) (ds : List D)
  /-- a dict: its keys ints, or tuples -/
  | dic (w : Option World) (kvs : List (D × D))
  /-- a list: a known list of ints first, then ints -/
  | hnd (x c : Addr) (cells l : List Int)
inductive Sl where
  | no | sh (d : D) | ow (o : Ob)
abbrev Rho := List Sl
def Own (K : PySem.W.Frag) (hd : Option Addr) (S H : Hp) (a : Addr) : Ob → Prop
  | .lst l => ∃ xs, H a = some (.lst xs) ∧ Reps K hd S l xs
  | .ins x C ns ds => a = x ∧ ∃ dx xs, H a = some (.ins C dx (ns.zip xs)) ∧ ns.length = xs.length ∧ Reps K hd S ds xs
  | .dic .none kvs => ∃ q, H a = .some (.dK q) ∧ PK K hd S kvs q
  | .dic (.some w) kvs => ∃ q, H a = .some (dicO w a q) ∧ PN K hd S kvs q
  | .hnd x c cells l => a = x ∧ H a = .some (.lst (.ref c :: l.map V.int)) ∧ S c = .some (.lst (cells.map V.int))
structure OwnAt (K : PySem.W.Frag) (E : Ent) (S H : Hp) (a : Addr) (o : Ob) : Prop where
  f0 : E.H0 a = none
  ns : S a = none
  nh : E.hd ≠ some a
  own : Own K E.hd S H a o
structure EnvOk (K : PySem.W.Frag) (E : Ent) (S H : Hp) (ρ : Rho) (σ : L2.St) : Prop where
  w : Wld K E S H
  len : σ.length = ρ.length
  sh : ∀ (i : Nat) (d : D), ρ[i]? = some (Sl.sh d) → ∃ v, σ[i]? = some (some v) ∧ Rep K E.hd S d v
  ow : ∀ (i : Nat) (o : Ob), ρ[i]? = some (Sl.ow o) → ∃ a, σ[i]? = some (some (V.ref a)) ∧ OwnAt K E S H a o
  dj : ∀ (i j : Nat) (o o' : Ob) (a : Addr), ρ[i]? = some (Sl.ow o) → ρ[j]? = some (Sl.ow o') → σ[i]? = some (some (V.ref a)) → σ[j]? = some (some (V.ref a)) → i = j
section
variable {K : PySem.W.Frag} {E : Ent} {S H S' H' S2 H2 : Hp} {ρ : Rho} {σ : L2.St}
theorem Own.some {hd : Option Addr} {a : Addr} {o : Ob} (h : Own K hd S H a o) : ∃ u, H a = .some u := by
  cases o with
  | lst l =>
    obtain ⟨xs, q, _⟩ := h
    exact ⟨_, q⟩
  | ins x C ns ds =>
    obtain ⟨_, dx, xs, q, _⟩ := h
    exact ⟨_, q⟩
  | dic w kvs =>
    cases w with
    | none =>
      obtain ⟨q, e, _⟩ := h
      exact ⟨_, e⟩
    | some w =>
      obtain ⟨q, e, _⟩ := h
      exact ⟨_, e⟩
  | hnd x c cells l => exact ⟨_, h.2.1⟩
theorem Own.same {hd : Option Addr} {a : Addr} {o : Ob} (h : Own K hd S H a o) (e : Same S S') (k : ∀ u, H a = .some u → H' a = .some u) : Own K hd S' H' a o := by
  cases o with
  | lst l =>
    obtain ⟨xs, q, r⟩ := h
    exact ⟨xs, k _ q, Reps.mono e r⟩
  | ins x C ns ds =>
    obtain ⟨e0, dx, xs, q, z, r⟩ := h
    exact ⟨e0, dx, xs, k _ q, z, Reps.mono e r⟩
  | dic w kvs =>
    cases w with
    | none =>
      obtain ⟨q, e0, r⟩ := h
      exact ⟨q, k _ e0, Paired.mapP r fun p q z => ⟨z.1, Rep.mono e z.2⟩⟩
    | some w =>
      obtain ⟨q, e0, r⟩ := h
      exact ⟨q, k _ e0, Paired.mapP r fun p q z => ⟨z.1, z.2.1, Rep.mono e z.2.2.1, Rep.mono e z.2.2.2⟩⟩
  | hnd x c cells l => exact ⟨h.1, k _ h.2.1, e _ _ h.2.2⟩
theorem OwnAt.go {a : Addr} {o : Ob} (h : OwnAt K E S H a o) (g : Go K E S H S' H') : OwnAt K E S' H' a o := by
  refine ⟨h.f0, ?_, h.nh, h.own.same g.s fun u q => g.h a u q h.nh⟩
  cases q : S' a with
  | none => rfl
  | some u =>
    obtain ⟨u', q'⟩ := h.own.some
    rw [g.nw a u q h.ns] at q'
    cases q'
theorem EnvOk.go (e : EnvOk K E S H ρ σ) (g : Go K E S H S' H') : EnvOk K E S' H' ρ σ := by
  refine ⟨g.w, e.len, fun i d q => ?_, fun i o q => ?_, e.dj⟩
  · obtain ⟨v, a, b⟩ := e.sh i d q
    exact ⟨v, a, b.mono g.s⟩
  · obtain ⟨a, h, o'⟩ := e.ow i o q
    exact ⟨a, h, o'.go g⟩
end

/-! ### the judgements -/
structure Ek where
  nx : Rho → Prop := fun _ => False
  rt : D → Prop := fun _ => False
  /-- what is wanted of an answer, and of the slots then -/
  rr : Rho → D → Prop := fun _ _ => False
  bk : Rho → Prop := fun _ => False
  ct : Rho → Prop := fun _ => False
/-- the ends D are what is wanted of k's, from S on -/
structure Ends' (K : PySem.W.Frag) (E : Ent) (S : Hp) (k : Ek) (D' : Ends) : Prop where
  nx : ∀ ρ S' H' σ, k.nx ρ → Same S S' → EnvOk K E S' H' ρ σ → D'.nx σ H'
  rt : ∀ d v S' H', k.rt d → Wld K E S' H' → Rep K E.hd S' d v → D'.rt v H'
  rr : ∀ ρ d v S' H' σ, k.rr ρ d → Same S S' → EnvOk K E S' H' ρ σ → Rep K E.hd S' d v → D'.rt v H'
  bk : ∀ ρ S' H' σ, k.bk ρ → Same S S' → EnvOk K E S' H' ρ σ → D'.bk σ H'
  ct : ∀ ρ S' H' σ, k.ct ρ → Same S S' → EnvOk K E S' H' ρ σ → D'.ct σ H'
section
variable (K : PySem.W.Frag)
def tG (ρ : Rho) (Q : D → Prop) : TE := fun σ H R => ∃ E S, EnvOk K E S H ρ σ ∧ ∀ d v S' H', Q d → Go K E S H S' H' → Rep K E.hd S' d v → R v H'
def tGT (ρ : Rho) (Q : Bool → Prop) : TT := fun σ H R => ∃ E S, EnvOk K E S H ρ σ ∧ ∀ b S' H', Q b → Go K E S H S' H' → R b H'
def tGA (ρ : Rho) (Q : List D → Prop) : TA := fun σ H R => ∃ E S, EnvOk K E S H ρ σ ∧ ∀ ds vs S' H', Q ds → Go K E S H S' H' → Reps K E.hd S' ds vs → R vs H'
def tGS (ρ : Rho) (k : Ek) : TS := fun D' σ H => ∃ E S, EnvOk K E S H ρ σ ∧ Ends' K E S k D'
end
def De1 (X : Cx) (ρ : Rho) (e : Expr) (Q : D → Prop) : Prop := PE X e (tG X.K ρ Q)
def Dt1 (X : Cx) (ρ : Rho) (e : Expr) (Q : Bool → Prop) : Prop := PT X e (tGT X.K ρ Q)
def Da1 (X : Cx) (ρ : Rho) (es : List Expr) (Q : List D → Prop) : Prop := PA X es (tGA X.K ρ Q)
def Ds1 (X : Cx) (ρ : Rho) (st : Stmt) (k : Ek) : Prop := PS X st (tGS X.K ρ k)
def Db1 (X : Cx) (ρ : Rho) (sts : List Stmt) (k : Ek) : Prop := PSs X sts (tGS X.K ρ k)
/-- the contexts of one piece of code -/
structure Fam where
  ι : Type
  cx : ι → Cx
  k : Nat
  room : ∀ i, Room k (cx i).A
  calm : ∀ i, (cx i).calm = true
def De (F : Fam) (ρ : Rho) (e : Expr) (Q : D → Prop) : Prop := ∀ i, De1 (F.cx i) ρ e Q
def Dt (F : Fam) (ρ : Rho) (e : Expr) (Q : Bool → Prop) : Prop := ∀ i, Dt1 (F.cx i) ρ e Q
def Da (F : Fam) (ρ : Rho) (es : List Expr) (Q : List D → Prop) : Prop := ∀ i, Da1 (F.cx i) ρ es Q
def Ds (F : Fam) (ρ : Rho) (st : Stmt) (k : Ek) : Prop := ∀ i, Ds1 (F.cx i) ρ st k
def Db (F : Fam) (ρ : Rho) (sts : List Stmt) (k : Ek) : Prop := ∀ i, Db1 (F.cx i) ρ sts k
/-- whatever is known of it -/
def tAll (X : Cx) (e : Expr) : TE := fun σ H R => ∃ ρ Q, De1 X ρ e Q ∧ tG X.K ρ Q σ H R
def tAllT (X : Cx) (e : Expr) : TT := fun σ H R => ∃ ρ Q, Dt1 X ρ e Q ∧ tGT X.K ρ Q σ H R
def tAllA (X : Cx) (es : List Expr) : TA := fun σ H R => ∃ ρ Q, Da1 X ρ es Q ∧ tGA X.K ρ Q σ H R
def tAllS (X : Cx) (st : Stmt) : TS := fun D' σ H => ∃ ρ k, Ds1 X ρ st k ∧ tGS X.K ρ k D' σ H
def tAllB (X : Cx) (sts : List Stmt) : TS := fun D' σ H => ∃ ρ k, Db1 X ρ sts k ∧ tGS X.K ρ k D' σ H
section
variable {X : Cx} {ρ : Rho} {e : Expr}
theorem pe_all : PE X e (tAll X e) := ⟨fun pins s σ H Q I ⟨ρ, Q', d, g⟩ => d.run pins s σ H Q I g⟩
theorem pt_all : PT X e (tAllT X e) := ⟨fun pins s σ H Q I ⟨ρ, Q', d, g⟩ => d.run pins s σ H Q I g⟩
theorem pa_all {es : List Expr} : PA X es (tAllA X es) := ⟨fun pos pins s σ H Q I ⟨ρ, Q', d, g⟩ => d.run pos pins s σ H Q I g⟩
theorem ps_all {st : Stmt} : PS X st (tAllS X st) := ⟨fun pins s σ H Q I ⟨ρ, Q', d, g⟩ => d.run pins s σ H Q I g⟩
theorem pss_all {sts : List Stmt} : PSs X sts (tAllB X sts) := ⟨fun pins s σ H Q I ⟨ρ, Q', d, g⟩ => d.run pins s σ H Q I g⟩
theorem PE.imp {t t' : TE} (h : PE X e t) (i : ∀ σ H R, t' σ H R → t σ H R) : PE X e t' := ⟨fun pins s σ H Q I g => h.run pins s σ H Q I (i _ _ _ g)⟩
theorem PT.imp {t t' : TT} (h : PT X e t) (i : ∀ σ H R, t' σ H R → t σ H R) : PT X e t' := ⟨fun pins s σ H Q I g => h.run pins s σ H Q I (i _ _ _ g)⟩
theorem PA.imp {es : List Expr} {t t' : TA} (h : PA X es t) (i : ∀ σ H R, t' σ H R → t σ H R) : PA X es t' := ⟨fun pos pins s σ H Q I g => h.run pos pins s σ H Q I (i _ _ _ g)⟩
theorem PS.imp {st : Stmt} {t t' : TS} (h : PS X st t) (i : ∀ D σ H, t' D σ H → t D σ H) : PS X st t' := ⟨fun pins s σ H Q I g => h.run pins s σ H Q I (i _ _ _ g)⟩
theorem PSs.imp {st : List Stmt} {t t' : TS} (h : PSs X st t) (i : ∀ D σ H, t' D σ H → t D σ H) : PSs X st t' := ⟨fun pins s σ H Q I g => h.run pins s σ H Q I (i _ _ _ g)⟩

/-- a rule of the layer below, read at data -/
theorem De1.of {t : TE} {Q : D → Prop} (h : PE X e t)
    (i : ∀ E S H σ R, EnvOk X.K E S H ρ σ → (∀ d v S' H', Q d → Go X.K E S H S' H' → Rep X.K E.hd S' d v → R v H') → t σ H R) : De1 X ρ e Q :=
  PE.imp h fun σ H R ⟨E, S, g, k⟩ => i E S H σ R g k
theorem Dt1.of {t : TT} {Q : Bool → Prop} (h : PT X e t)
    (i : ∀ E S H σ R, EnvOk X.K E S H ρ σ → (∀ b S' H', Q b → Go X.K E S H S' H' → R b H') → t σ H R) : Dt1 X ρ e Q :=
  PT.imp h fun σ H R ⟨E, S, g, k⟩ => i E S H σ R g k
theorem Da1.of {es : List Expr} {t : TA} {Q : List D → Prop} (h : PA X es t)
    (i : ∀ E S H σ R, EnvOk X.K E S H ρ σ → (∀ d v S' H', Q d → Go X.K E S H S' H' → Reps X.K E.hd S' d v → R v H') → t σ H R) : Da1 X ρ es Q :=
  PA.imp h fun σ H R ⟨E, S, g, k⟩ => i E S H σ R g k
theorem Ds1.of {st : Stmt} {t : TS} {k : Ek} (h : PS X st t) (i : ∀ E S H σ D', EnvOk X.K E S H ρ σ → Ends' X.K E S k D' → t D' σ H) : Ds1 X ρ st k :=
  PS.imp h fun D' σ H ⟨E, S, g, q⟩ => i E S H σ D' g q
theorem Db1.of {st : List Stmt} {t : TS} {k : Ek} (h : PSs X st t) (i : ∀ E S H σ D', EnvOk X.K E S H ρ σ → Ends' X.K E S k D' → t D' σ H) : Db1 X ρ st k :=
  PSs.imp h fun D' σ H ⟨E, S, g, q⟩ => i E S H σ D' g q
section
variable {F : Fam} {i : F.ι} {E : Ent} {S H : Hp} {σ : L2.St}
theorem De.all {Q : D → Prop} {R : VK} (d : De F ρ e Q) (g : EnvOk (F.cx i).K E S H ρ σ) (k : ∀ d v S' H', Q d → Go (F.cx i).K E S H S' H' → Rep (F.cx i).K E.hd S' d v → R v H') : tAll (F.cx i) e σ H R := ⟨ρ, Q, d i, E, S, g, k⟩
theorem Dt.all {Q : Bool → Prop} {R : Bool → Hp → Prop} (d : Dt F ρ e Q) (g : EnvOk (F.cx i).K E S H ρ σ) (k : ∀ b S' H', Q b → Go (F.cx i).K E S H S' H' → R b H') : tAllT (F.cx i) e σ H R := ⟨ρ, Q, d i, E, S, g, k⟩
theorem Da.all {es : List Expr} {Q : List D → Prop} {R : List V → Hp → Prop} (d : Da F ρ es Q) (g : EnvOk (F.cx i).K E S H ρ σ) (k : ∀ d v S' H', Q d → Go (F.cx i).K E S H S' H' → Reps (F.cx i).K E.hd S' d v → R v H') : tAllA (F.cx i) es σ H R := ⟨ρ, Q, d i, E, S, g, k⟩
theorem Ds.all {st : Stmt} {k : Ek} {D' : Ends} (d : Ds F ρ st k) (g : EnvOk (F.cx i).K E S H ρ σ) (q : Ends' (F.cx i).K E S k D') : tAllS (F.cx i) st D' σ H := ⟨ρ, k, d i, E, S, g, q⟩
theorem Db.all {st : List Stmt} {k : Ek} {D' : Ends} (d : Db F ρ st k) (g : EnvOk (F.cx i).K E S H ρ σ) (q : Ends' (F.cx i).K E S k D') : tAllB (F.cx i) st D' σ H := ⟨ρ, k, d i, E, S, g, q⟩
theorem De.mono {Q Q' : D → Prop} (d : De F ρ e Q) (m : ∀ x, Q x → Q' x) : De F ρ e Q' := fun i => PE.imp (d i) fun σ H R ⟨E, S, g, k⟩ => ⟨E, S, g, fun x v S' H' q => k x v S' H' (m x q)⟩
theorem Dt.mono {Q Q' : Bool → Prop} (d : Dt F ρ e Q) (m : ∀ x, Q x → Q' x) : Dt F ρ e Q' := fun i => PT.imp (d i) fun σ H R ⟨E, S, g, k⟩ => ⟨E, S, g, fun x S' H' q => k x S' H' (m x q)⟩
theorem Ends'.mono {K : PySem.W.Frag} {k k' : Ek} {D' : Ends} (q : Ends' K E S k' D') (nx : ∀ ρ, k.nx ρ → k'.nx ρ) (rt : ∀ d, k.rt d → k'.rt d) (bk : ∀ ρ, k.bk ρ → k'.bk ρ) (ct : ∀ ρ, k.ct ρ → k'.ct ρ) (rr : ∀ ρ d, k.rr ρ d → k'.rr ρ d) : Ends' K E S k D' :=
  ⟨fun ρ S' H' σ a => q.nx ρ S' H' σ (nx ρ a), fun d v S' H' a => q.rt d v S' H' (rt d a), fun ρ d v S' H' σ a => q.rr ρ d v S' H' σ (rr ρ d a), fun ρ S' H' σ a => q.bk ρ S' H' σ (bk ρ a), fun ρ S' H' σ a => q.ct ρ S' H' σ (ct ρ a)⟩
theorem Ds.mono {st : Stmt} {k k' : Ek} (d : Ds F ρ st k) (nx : ∀ ρ, k.nx ρ → k'.nx ρ) (rt : ∀ d, k.rt d → k'.rt d) (bk : ∀ ρ, k.bk ρ → k'.bk ρ) (ct : ∀ ρ, k.ct ρ → k'.ct ρ) (rr : ∀ ρ d, k.rr ρ d → k'.rr ρ d := by intro _ _ z; exact z.elim) : Ds F ρ st k' := fun i => PS.imp (d i) fun D' σ H ⟨E, S, g, q⟩ => ⟨E, S, g, q.mono nx rt bk ct rr⟩
theorem Db.mono {st : List Stmt} {k k' : Ek} (d : Db F ρ st k) (nx : ∀ ρ, k.nx ρ → k'.nx ρ) (rt : ∀ d, k.rt d → k'.rt d) (bk : ∀ ρ, k.bk ρ → k'.bk ρ) (ct : ∀ ρ, k.ct ρ → k'.ct ρ) (rr : ∀ ρ d, k.rr ρ d → k'.rr ρ d := by intro _ _ z; exact z.elim) : Db F ρ st k' := fun i => PSs.imp (d i) fun D' σ H ⟨E, S, g, q⟩ => ⟨E, S, g, q.mono nx rt bk ct rr⟩
/-- from a later S -/
theorem Ends'.go {K : PySem.W.Frag} {k : Ek} {D' : Ends} {S' : Hp} (q : Ends' K E S k D') (s : Same S S') : Ends' K E S' k D' :=
  ⟨fun ρ S2 H' σ a e => q.nx ρ S2 H' σ a (s.trans e), q.rt, fun ρ d v S2 H' σ a e => q.rr ρ d v S2 H' σ a (s.trans e), fun ρ S2 H' σ a e => q.bk ρ S2 H' σ a (s.trans e), fun ρ S2 H' σ a e => q.ct ρ S2 H' σ a (s.trans e)⟩
end
end

/-! ### a def by data -/
/-- a def's meaning: its arguments, what is wanted of its answer -/
abbrev DSpec := List D → (D → Prop) → Prop
def spD (K : PySem.W.Frag) (f : DSpec) : Sp := fun vs H R _ => ∃ E S ds Q, Wld K E S H ∧ Reps K E.hd S ds vs ∧ f ds Q ∧ ∀ d v S' H', Q d → Go K E S H S' H' → Rep K E.hd S' d v → R v H'
def rho0 (N : List Str) (ds : List D) : Rho := ds.map Sl.sh ++ List.replicate (N.length - ds.length) Sl.no
structure Dyn (k : Nat) (qual : Str) (sc : Scope) where
  f : Addr
  cdv : Value
  A : Around
  outer : List Env
  s : Shared
  H : Hp
  E : XK
  hr : Room k (A.deeper (envOfC qual sc s.heap.objs.size f cdv))
/-- the program's facts -/
structure Glo where
  P : Program
  w : World
  K : PySem.W.Frag
  mg : Str → Option Value
  base : Heap
def fam (G : Glo) (N : List Str) (qual : Str) (sc : Scope) (k : Nat) : Fam where
  ι := Dyn k qual sc
  cx := fun z => (cxOf CX0 G.P G.w G.K G.mg G.base N qual sc z.f z.cdv z.A z.outer z.s z.H z.E).nox
  k := k
  room := fun z => z.hr
  calm := fun _ => rfl
theorem rho0_get {N : List Str} {ds : List D} {i : Nat} {d : D} (h : (rho0 N ds)[i]? = some (Sl.sh d)) : ds[i]? = some d := by
  unfold rho0 at h
  by_cases hi : i < ds.length
  · rw [List.getElem?_append_left (by rw [List.length_map]; exact hi), List.getElem?_map] at h
    cases q : ds[i]? with
    | none => rw [q] at h; cases h
    | some u => rw [q] at h; cases h; rfl
  · rw [List.getElem?_append_right (by rw [List.length_map]; omega), List.getElem?_replicate] at h
    split at h <;> cases h
theorem rho0_ow {N : List Str} {ds : List D} {i : Nat} {o : Ob} (h : (rho0 N ds)[i]? = some (Sl.ow o)) : False := by
  unfold rho0 at h
  by_cases hi : i < ds.length
  · rw [List.getElem?_append_left (by rw [List.length_map]; exact hi), List.getElem?_map] at h
    cases q : ds[i]? with
    | none => rw [q] at h; cases h
    | some u => rw [q] at h; cases h
  · rw [List.getElem?_append_right (by rw [List.length_map]; omega), List.getElem?_replicate] at h
    split at h <;> cases h
/-- THE RULE for a def at data -/
theorem defD {G : Glo} {x qual : Str} {st : Stmt} {f : Addr} {fd : FuncData} {N ps : List Str} {k : Nat} {spec : DSpec} (F : Fun G.K x qual st f fd) (S : FnScope N ps (defScope st)) (hl : ∀ ds Q, spec ds Q → ds.length = ps.length)
    (h : ∀ ds Q, spec ds Q → Db (fam G N qual (defScope st) k) (rho0 N ds) (defBody st) { nx := fun _ => Q .non, rt := Q }) : FnOk G.P G.w G.K G.mg G.base CX0 (k + 1) f fd ps (spD G.K spec) := by
  refine F.ok S (fun vs H R E hs => ?_) (fun cdv A outer s H vs R E hr hs => ?_)
  · obtain ⟨E', S', ds, Q, w, r, hq, _⟩ := hs
    rw [← r.length]
    exact hl ds Q hq
  · obtain ⟨E', S', ds, Q, w, r, hq, kk⟩ := hs
    refine ⟨_, h ds Q hq ⟨f, cdv, A, outer, s, H, E, hr⟩, ⟨E'.hd, E'.hc, S', H⟩, S', ⟨⟨w.sh, Same.refl _, w.hand, w.nh, But.refl _ _, fun b o e n => ?_⟩, ?_, fun i d e => ?_, fun i o e => (rho0_ow e).elim, fun i j o o' a e => (rho0_ow e).elim⟩, ?_⟩
    · have n : S' b = none := n
      rw [n] at e
      cases e
    · show (L2.start N vs).length = _
      have e := r.length
      unfold L2.start rho0
      simp only [List.length_append, List.length_map, List.length_replicate]
      omega
    · have e := rho0_get e
      obtain ⟨v, a, b⟩ := r.get e
      refine ⟨v, ?_, b⟩
      show (L2.start N vs)[i]? = _
      unfold L2.start
      have hi := (List.getElem?_eq_some_iff.mp a).1
      rw [List.getElem?_append_left (by rw [List.length_map]; exact hi), List.getElem?_map, a]
      rfl
    · have fin : ∀ (d : D) (v : V) (S2 H2 : Hp), Q d → Wld G.K ⟨E'.hd, E'.hc, S', H⟩ S2 H2 → Rep G.K E'.hd S2 d v → R v H2 := fun d v S2 H2 q w2 rr => by
        refine kk d v S2 H2 q ⟨w2.s0, w2.fr, w2.nw, w2.sh, w.s0.trans w2.s0, w2.hand, w2.nh, w.fr.trans w2.fr, fun b o e n => ?_⟩ rr
        cases q2 : S' b with
        | some u => exact w.nw b u q2 n
        | none =>
          have z : H b = none := w2.nw b o e q2
          cases r2 : E'.H0 b with
          | none => rfl
          | some u =>
            by_cases eb : E'.hd = some b
            · rw [w2.nh b eb] at e
              cases e
            · rw [w.fr b u r2 eb] at z
              cases z
      exact ⟨fun ρ S2 H2 σ q _ g => fin .non .non S2 H2 q g.w rfl, fun d v S2 H2 q w2 rr => fin d v S2 H2 q w2 rr, fun _ _ _ _ _ _ q => q.elim, fun _ _ _ _ q => q.elim, fun _ _ _ _ q => q.elim⟩
end DL
set_option Elab.async false
set_option linter.all false
set_option maxRecDepth 100000
/-! DL2: expressions at data. -/
namespace DL
open PySem PySem.Spec PyProof.Rows L2

/-! ### what operators do to data -/
abbrev DQ := D → Prop
def dI (C : Int → Int → Prop) (g : Int → Int → Int) (x y : D) (Q : DQ) : Prop := match x, y with
  | .int i, .int j => C i j ∧ Q (.int (g i j))
  | _, _ => False
def dI0 (g : Int → Int → D) (x y : D) (Q : DQ) : Prop := match x, y with
  | .int i, .int j => Q (g i j)
  | _, _ => False
def dAdd (x y : D) (Q : DQ) : Prop := match x, y with
  | .int i, .int j => Q (.int (i + j))
  | .str i, .str j => i.length + j.length ≤ sizeLine ∧ Q (.str (i ++ j))
  | .lst a, .lst b => a.length + b.length ≤ sizeLine ∧ Q (.lst (a ++ b))
  | .tup a, .tup b => a.length + b.length ≤ sizeLine ∧ Q (.tup (a ++ b))
  | _, _ => False
abbrev dSub := dI0 fun i j => .int (i - j)
abbrev dAnd := dI0 fun i j => .int (Builtin.bitAnd i j)
abbrev dOr := dI0 fun i j => .int (Builtin.bitOr i j)
abbrev dXor := dI0 fun i j => .int (Builtin.bitXor i j)
def MulOk (i j : Int) : Prop := CMul i j ∨ CMulW i j
abbrev dMul := dI MulOk fun i j => i * j
abbrev dFdiv := dI CDiv fun i j => i / j
abbrev dMod := dI (fun _ j => 0 < j) fun i j => i % j
abbrev dPow := dI CPow fun i j => i ^ j.toNat
def ShlOk (i j : Int) : Prop := 0 ≤ j ∧ ∃ n : Nat, i.natAbs < 2 ^ n ∧ n + j.toNat ≤ 134217728
abbrev dShl := dI ShlOk fun i j => i * 2 ^ j.toNat
abbrev dShr := dI (fun _ j => 0 ≤ j) fun i j => i / 2 ^ j.toNat
abbrev dLt := dI0 fun i j => .bl (decide (i < j))
abbrev dLe := dI0 fun i j => .bl (decide (i ≤ j))
abbrev dGt := dI0 fun i j => .bl (decide (j < i))
abbrev dGe := dI0 fun i j => .bl (decide (j ≤ i))
def dEq (x y : D) (Q : DQ) : Prop := match x, y with
  | .int i, .int j => Q (.bl (decide (i = j)))
  | .str i, .str j => Q (.bl (decide (i = j)))
  | .bl i, .bl j => Q (.bl (decide (i = j)))
  | _, _ => False
def dNe (x y : D) (Q : DQ) : Prop := match x, y with
  | .int i, .int j => Q (.bl (!decide (i = j)))
  | .str i, .str j => Q (.bl (!decide (i = j)))
  | .bl i, .bl j => Q (.bl (!decide (i = j)))
  | _, _ => False
/-- is None, is not None -/
def D.isNon : D → Bool
  | .non => true
  | _ => false

/-! ### a binary operation's reading at data -/
def OpD (K : PySem.W.Frag) (r : R2) (x y : D) (Q : DQ) : Prop := ∀ E S H, Wld K E S H → ∀ v u, Rep K E.hd S x v → Rep K E.hd S y u → ∀ R : VK, (∀ d z S' H', Q d → Go K E S H S' H' → Rep K E.hd S' d z → R z H') → r v u H R
section
variable {K : PySem.W.Frag} {x y : D} {Q : DQ}
theorem opd_I {C : Int → Int → Prop} {C' : Int → Int → Prop} {g : Int → Int → Int} (hC : ∀ i j, C' i j → C i j) (h : dI C' g x y Q) : OpD K (rI C fun i j => .int (g i j)) x y Q := by
  intro E S H w v u rv ru R k
  unfold dI at h
  split at h
  · cases (show v = _ from rv)
    cases (show u = _ from ru)
    exact ⟨_, _, rfl, rfl, hC _ _ h.1, k _ _ S H h.2 (Go.refl w) rfl⟩
  · exact h.elim
theorem opd_I0i {g : Int → Int → Int} (h : dI0 (fun i j => .int (g i j)) x y Q) : OpD K (rI0 fun i j => .int (g i j)) x y Q := by
  intro E S H w v u rv ru R k
  unfold dI0 at h
  split at h
  · cases (show v = _ from rv)
    cases (show u = _ from ru)
    exact ⟨_, _, rfl, rfl, k _ _ S H h (Go.refl w) rfl⟩
  · exact h.elim
theorem opd_I0b {g : Int → Int → Bool} (h : dI0 (fun i j => .bl (g i j)) x y Q) : OpD K (rI0 fun i j => .bl (g i j)) x y Q := by
  intro E S H w v u rv ru R k
  unfold dI0 at h
  split at h
  · cases (show v = _ from rv)
    cases (show u = _ from ru)
    exact ⟨_, _, rfl, rfl, k _ _ S H h (Go.refl w) rfl⟩
  · exact h.elim
end

section
variable {F : Fam} {ρ : Rho} {a b c e : Expr} {pos : Pos} {Q : DQ}
/-- a binary operator -/
theorem De.bin {op : Operator} {r : F.ι → R2} (ho : ∀ i, OpR (F.cx i) (binaryOp op) (r i)) {d : D → D → DQ → Prop} (hd : ∀ i x y Q, d x y Q → OpD (F.cx i).K (r i) x y Q)
    (h : De F ρ a fun x => De F ρ b fun y => d x y Q) : De F ρ (.BinOp a op b pos) Q := fun i =>
  De1.of (pe_op (ho i) pe_all pe_all) fun E S H σ R g k => h.all g fun x v S1 H1 qx g1 rx => qx.all (g.go g1) fun y u S2 H2 qy g2 ry =>
    hd i x y Q qy E S2 H2 g2.w v u (rx.mono g2.s) ry R fun z zv S3 H3 qz g3 rz => k z zv S3 H3 qz ((g1.trans g2).trans g3) rz
theorem De.cmp {op : CmpOp} {r : F.ι → R2} (ho : ∀ i, OpR (F.cx i) (compareOp op) (r i)) {d : D → D → DQ → Prop} (hd : ∀ i x y Q, d x y Q → OpD (F.cx i).K (r i) x y Q) (hm : behindInMarks op b = false)
    (h : De F ρ a fun x => De F ρ b fun y => d x y Q) : De F ρ (.Compare a [op] [b] pos) Q := fun i =>
  De1.of (pe_cmpR (ho i) pe_all pe_all hm) fun E S H σ R g k => h.all g fun x v S1 H1 qx g1 rx => qx.all (g.go g1) fun y u S2 H2 qy g2 ry =>
    hd i x y Q qy E S2 H2 g2.w v u (rx.mono g2.s) ry R fun z zv S3 H3 qz g3 rz => k z zv S3 H3 qz ((g1.trans g2).trans g3) rz
/-- what is True, False -/
abbrev isB (Q : Bool → Prop) : DQ := fun d => match d with
  | .bl b => Q b
  | _ => False
theorem isB_of {Q : Bool → Prop} {d : D} (h : isB Q d) : ∃ b, d = .bl b ∧ Q b := by
  cases d with
  | bl b => exact ⟨b, rfl, h⟩
  | _ => exact h.elim
theorem Dt.cmp {op : CmpOp} {r : F.ι → R2} {Q : Bool → Prop} (ho : ∀ i, OpR (F.cx i) (compareOp op) (r i)) {d : D → D → DQ → Prop} (hd : ∀ i x y Q, d x y Q → OpD (F.cx i).K (r i) x y Q) (hm : behindInMarks op b = false)
    (h : De F ρ a fun x => De F ρ b fun y => d x y (isB Q)) : Dt F ρ (.Compare a [op] [b] pos) Q := fun i =>
  Dt1.of (pt_cmpR (ho i) pe_all pe_all hm) fun E S H σ R g k => h.all g fun x v S1 H1 qx g1 rx => qx.all (g.go g1) fun y u S2 H2 qy g2 ry =>
    hd i x y (isB Q) qy E S2 H2 g2.w v u (rx.mono g2.s) ry _ fun z zv S3 H3 qz g3 rz => by
      obtain ⟨t, rfl, q⟩ := isB_of qz
      exact ⟨t, rz, k t S3 H3 q ((g1.trans g2).trans g3)⟩

theorem De.add (h : De F ρ a fun x => De F ρ b fun y => dAdd x y Q) : De F ρ (.BinOp a .Add b pos) Q := by
  refine De.bin (r := fun i => fun x y H Q => (rI0 (fun i j => .int (i + j)) x y H Q ∨ (∃ i j, x = .str i ∧ y = .str j ∧ i.length + j.length ≤ sizeLine ∧ Q (.str (i ++ j)) H)) ∨ (rCat x y H Q ∨ rCatA (F.cx i).K x y H Q)) (fun i => (op_add.or op_add_str).or (op_cat.or op_catA)) (d := dAdd) (fun i x y Q h => ?_) h
  intro E S H w v u rv ru R k
  unfold dAdd at h
  split at h
  · cases (show v = _ from rv)
    cases (show u = _ from ru)
    exact .inl (.inl ⟨_, _, rfl, rfl, k _ _ S H h (Go.refl w) rfl⟩)
  · cases (show v = _ from rv)
    cases (show u = _ from ru)
    exact .inl (.inr ⟨_, _, rfl, rfl, h.1, k _ _ S H h.2 (Go.refl w) rfl⟩)
  · obtain ⟨p, xs, rfl, e1, r1⟩ := rv
    obtain ⟨q, ys, rfl, e2, r2⟩ := ru
    have l1 := Reps.length r1
    have l2 := Reps.length r2
    refine .inr (.inl ⟨p, q, xs, ys, rfl, rfl, w.sh _ _ e1, w.sh _ _ e2, by omega, fun t ht => ?_⟩)
    have g := w.new (o := .lst (xs ++ ys)) ht
    exact k _ _ _ _ h.2 g ⟨t, _, rfl, upd_same, Reps.mono g.s (Reps.app r1 r2)⟩
  · obtain ⟨p, xs, rfl, e1, r1⟩ := rv
    obtain ⟨q, ys, rfl, e2, r2⟩ := ru
    have l1 := Reps.length r1
    have l2 := Reps.length r2
    refine .inr (.inr ⟨p, q, xs, ys, rfl, rfl, Same.sqT w.sh e1, Same.sqT w.sh e2, by omega, fun z => ?_, fun z z2 => ?_, fun z z2 t ht => ?_⟩)
    · subst z
      have e : _ = [] := List.eq_nil_of_length_eq_zero l1
      refine k _ _ S H h.2 (Go.refl w) ⟨q, ys, rfl, e2, ?_⟩
      rw [e]
      exact r2
    · subst z2
      have e : _ = [] := List.eq_nil_of_length_eq_zero l2
      refine k _ _ S H h.2 (Go.refl w) ⟨p, xs, rfl, e1, ?_⟩
      rw [e, List.append_nil]
      exact r1
    · have g := w.new (o := .tup (xs ++ ys)) ht
      exact k _ _ _ _ h.2 g ⟨t, _, rfl, .of upd_same, Reps.mono g.s (Reps.app r1 r2)⟩
  · exact h.elim
theorem De.sub (h : De F ρ a fun x => De F ρ b fun y => dSub x y Q) : De F ρ (.BinOp a .Sub b pos) Q := De.bin (r := fun _ => _) (d := dSub) (fun i => op_sub) (fun i x y Q h => opd_I0i h) h
theorem De.band (h : De F ρ a fun x => De F ρ b fun y => dAnd x y Q) : De F ρ (.BinOp a .BitAnd b pos) Q := De.bin (r := fun _ => _) (d := dAnd) (fun i => op_and) (fun i x y Q h => opd_I0i h) h
theorem De.bor (h : De F ρ a fun x => De F ρ b fun y => dOr x y Q) : De F ρ (.BinOp a .BitOr b pos) Q := De.bin (r := fun _ => _) (d := dOr) (fun i => op_or) (fun i x y Q h => opd_I0i h) h
theorem De.bxor (h : De F ρ a fun x => De F ρ b fun y => dXor x y Q) : De F ρ (.BinOp a .BitXor b pos) Q := De.bin (r := fun _ => _) (d := dXor) (fun i => op_xor) (fun i x y Q h => opd_I0i h) h
theorem De.fdiv (h : De F ρ a fun x => De F ρ b fun y => dFdiv x y Q) : De F ρ (.BinOp a .FloorDiv b pos) Q := De.bin (r := fun _ => _) (d := dFdiv) (fun i => op_fdiv) (fun i x y Q h => opd_I (fun _ _ h => h) h) h
theorem De.mod (h : De F ρ a fun x => De F ρ b fun y => dMod x y Q) : De F ρ (.BinOp a .Mod b pos) Q := De.bin (r := fun _ => _) (d := dMod) (fun i => op_mod) (fun i x y Q h => opd_I (fun _ _ h => h) h) h
theorem De.pow (h : De F ρ a fun x => De F ρ b fun y => dPow x y Q) : De F ρ (.BinOp a .Pow b pos) Q := De.bin (r := fun _ => _) (d := dPow) (fun i => op_pow) (fun i x y Q h => opd_I (fun _ _ h => h) h) h
theorem De.shr (h : De F ρ a fun x => De F ρ b fun y => dShr x y Q) : De F ρ (.BinOp a .RShift b pos) Q := De.bin (r := fun _ => _) (d := dShr) (fun i => op_shr) (fun i x y Q h => opd_I (fun _ _ h => h) h) h
theorem De.shl (h : De F ρ a fun x => De F ρ b fun y => dShl x y Q) : De F ρ (.BinOp a .LShift b pos) Q := De.bin (r := fun _ => _) (d := dShl) (fun i => op_shlW) (fun i x y Q h => opd_I (fun i j h => by
  obtain ⟨h0, n, h1, h2⟩ := h
  have e : ((j.toNat : Nat) : Int) = j := Int.toNat_of_nonneg h0
  have q := shl_ok h1 h2
  rw [e] at q
  exact q) h) h
theorem De.mul (h : De F ρ a fun x => De F ρ b fun y => dMul x y Q) : De F ρ (.BinOp a .Mult b pos) Q := by
  refine De.bin (r := fun _ => fun x y H Q => rI CMul (fun i j => .int (i * j)) x y H Q ∨ rI CMulW (fun i j => .int (i * j)) x y H Q) (fun i => op_mul.or op_mulW) (d := dMul) (fun i x y Q h => ?_) h
  intro E S H w v u rv ru R k
  unfold dMul dI at h
  split at h
  · cases (show v = _ from rv)
    cases (show u = _ from ru)
    rcases h.1 with c | c
    · exact .inl ⟨_, _, rfl, rfl, c, k _ _ S H h.2 (Go.refl w) rfl⟩
    · exact .inr ⟨_, _, rfl, rfl, c, k _ _ S H h.2 (Go.refl w) rfl⟩
  · exact h.elim
theorem opd_eq (K : PySem.W.Frag) (x y : D) (Q : DQ) (h : dEq x y Q) : OpD K rEq x y Q := by
  intro E S H w v u rv ru R k
  unfold dEq at h
  split at h <;> first
    | (cases (show v = _ from rv)
       cases (show u = _ from ru)
       refine ⟨rfl, k _ _ S H h (Go.refl w) ?_⟩
       show V.bl _ = V.bl _
       simp)
    | exact h.elim
theorem opd_ne (K : PySem.W.Frag) (x y : D) (Q : DQ) (h : dNe x y Q) : OpD K rNe x y Q := by
  intro E S H w v u rv ru R k
  unfold dNe at h
  split at h <;> first
    | (cases (show v = _ from rv)
       cases (show u = _ from ru)
       refine ⟨rfl, k _ _ S H h (Go.refl w) ?_⟩
       show V.bl _ = V.bl _
       simp)
    | exact h.elim
theorem De.eq (h : De F ρ a fun x => De F ρ b fun y => dEq x y Q) : De F ρ (.Compare a [.Eq] [b] pos) Q := De.cmp (r := fun _ => rEq) (fun i => op_eq) (fun i x y Q h => opd_eq _ x y Q h) (nomark _) h
theorem De.ne (h : De F ρ a fun x => De F ρ b fun y => dNe x y Q) : De F ρ (.Compare a [.NotEq] [b] pos) Q := De.cmp (r := fun _ => rNe) (fun i => op_ne) (fun i x y Q h => opd_ne _ x y Q h) (nomark _) h
theorem De.lt (h : De F ρ a fun x => De F ρ b fun y => dLt x y Q) : De F ρ (.Compare a [.Lt] [b] pos) Q := De.cmp (r := fun _ => _) (d := dLt) (fun i => op_lt) (fun i x y Q h => opd_I0b h) (nomark _) h
theorem De.le (h : De F ρ a fun x => De F ρ b fun y => dLe x y Q) : De F ρ (.Compare a [.LtE] [b] pos) Q := De.cmp (r := fun _ => _) (d := dLe) (fun i => op_le) (fun i x y Q h => opd_I0b h) (nomark _) h
theorem De.gt (h : De F ρ a fun x => De F ρ b fun y => dGt x y Q) : De F ρ (.Compare a [.Gt] [b] pos) Q := De.cmp (r := fun _ => _) (d := dGt) (fun i => op_gt) (fun i x y Q h => opd_I0b h) (nomark _) h
theorem De.ge (h : De F ρ a fun x => De F ρ b fun y => dGe x y Q) : De F ρ (.Compare a [.GtE] [b] pos) Q := De.cmp (r := fun _ => _) (d := dGe) (fun i => op_ge) (fun i x y Q h => opd_I0b h) (nomark _) h
theorem Dt.eq {Q : Bool → Prop} (h : De F ρ a fun x => De F ρ b fun y => dEq x y (isB Q)) : Dt F ρ (.Compare a [.Eq] [b] pos) Q := Dt.cmp (r := fun _ => rEq) (fun i => op_eq) (fun i x y Q h => opd_eq _ x y Q h) (nomark _) h
theorem Dt.ne {Q : Bool → Prop} (h : De F ρ a fun x => De F ρ b fun y => dNe x y (isB Q)) : Dt F ρ (.Compare a [.NotEq] [b] pos) Q := Dt.cmp (r := fun _ => rNe) (fun i => op_ne) (fun i x y Q h => opd_ne _ x y Q h) (nomark _) h
theorem Dt.lt {Q : Bool → Prop} (h : De F ρ a fun x => De F ρ b fun y => dLt x y (isB Q)) : Dt F ρ (.Compare a [.Lt] [b] pos) Q := Dt.cmp (r := fun _ => _) (d := dLt) (fun i => op_lt) (fun i x y Q h => opd_I0b h) (nomark _) h
theorem Dt.le {Q : Bool → Prop} (h : De F ρ a fun x => De F ρ b fun y => dLe x y (isB Q)) : Dt F ρ (.Compare a [.LtE] [b] pos) Q := Dt.cmp (r := fun _ => _) (d := dLe) (fun i => op_le) (fun i x y Q h => opd_I0b h) (nomark _) h
theorem Dt.gt {Q : Bool → Prop} (h : De F ρ a fun x => De F ρ b fun y => dGt x y (isB Q)) : Dt F ρ (.Compare a [.Gt] [b] pos) Q := Dt.cmp (r := fun _ => _) (d := dGt) (fun i => op_gt) (fun i x y Q h => opd_I0b h) (nomark _) h
theorem Dt.ge {Q : Bool → Prop} (h : De F ρ a fun x => De F ρ b fun y => dGe x y (isB Q)) : Dt F ρ (.Compare a [.GtE] [b] pos) Q := Dt.cmp (r := fun _ => _) (d := dGe) (fun i => op_ge) (fun i x y Q h => opd_I0b h) (nomark _) h
/-- 0 <= a <= b, 0 <= a < b -/
theorem De.chain {op op' : CmpOp} {r r' : F.ι → R2} {d d' : D → D → DQ → Prop} (ho : ∀ i, OpR (F.cx i) (compareOp op) (r i)) (ho' : ∀ i, OpR (F.cx i) (compareOp op') (r' i)) (hd : ∀ i x y Q, d x y Q → OpD (F.cx i).K (r i) x y Q)
    (hd' : ∀ i x y Q, d' x y Q → OpD (F.cx i).K (r' i) x y Q) (hm : lastMarks [op, op'] [b, c] = false)
    (h : De F ρ a fun x => De F ρ b fun y => d x y (isB fun t => (t = true → De F ρ c fun z => d' y z Q) ∧ (t = false → Q (.bl false)))) : De F ρ (.Compare a [op, op'] [b, c] pos) Q := fun i =>
  De1.of (pe_chain (ho i) (ho' i) pe_all pe_all pe_all hm) fun E S H σ R g k => h.all g fun x v S1 H1 qx g1 rx => qx.all (g.go g1) fun y u S2 H2 qy g2 ry =>
    hd i x y _ qy E S2 H2 g2.w v u (rx.mono g2.s) ry _ fun z zv S3 H3 qz g3 rz => by
      obtain ⟨t, rfl, q1, q2⟩ := isB_of qz
      refine ⟨t, rz, ?_⟩
      have g123 := (g1.trans g2).trans g3
      cases t with
      | true => exact (q1 rfl).all (g.go g123) fun z2 u2 S4 H4 qz2 g4 rz2 => hd' i y z2 Q qz2 E S4 H4 g4.w u u2 ((ry.mono g3.s).mono g4.s) rz2 R fun d3 v3 S5 H5 q3 g5 r3 => k d3 v3 S5 H5 q3 ((g123.trans g4).trans g5) r3
      | false => exact k _ _ S3 H3 (q2 rfl) g123 rfl
theorem De.chLL (h : De F ρ a fun x => De F ρ b fun y => dLe x y (isB fun t => (t = true → De F ρ c fun z => dLe y z Q) ∧ (t = false → Q (.bl false)))) (hm : lastMarks [.LtE, .LtE] [b, c] = false := by with_unfolding_all rfl) : De F ρ (.Compare a [.LtE, .LtE] [b, c] pos) Q :=
  De.chain (r := fun _ => _) (r' := fun _ => _) (d := dLe) (d' := dLe) (fun i => op_le) (fun i => op_le) (fun i x y Q h => opd_I0b h) (fun i x y Q h => opd_I0b h) hm h
theorem De.chLl (h : De F ρ a fun x => De F ρ b fun y => dLe x y (isB fun t => (t = true → De F ρ c fun z => dLt y z Q) ∧ (t = false → Q (.bl false)))) (hm : lastMarks [.LtE, .Lt] [b, c] = false := by with_unfolding_all rfl) : De F ρ (.Compare a [.LtE, .Lt] [b, c] pos) Q :=
  De.chain (r := fun _ => _) (r' := fun _ => _) (d := dLe) (d' := dLt) (fun i => op_le) (fun i => op_lt) (fun i x y Q h => opd_I0b h) (fun i x y Q h => opd_I0b h) hm h

/-! ### names, constants -/
theorem De.name (j : Nat) {x : Str} {d : D} (hr : ρ[j]? = some (Sl.sh d)) (hq : Q d) (hN : ∀ i, (F.cx i).N[j]? = some x := by intro _; rfl)
    (hv : ∀ i, Vis (F.cx i).env.scope x := by intro _; first | exact Or.inl rfl | exact Or.inr (Or.inl rfl) | exact Or.inr (Or.inr rfl)) (h1 : (x == ("__debug__" : Str)) = false := by decide) (h2 : (x == ("__classdict__" : Str)) = false := by decide) : De F ρ (.Name x pos) Q := fun i =>
  De1.of (pe_var (hN i) (hv i) h1 h2) fun E S H σ R g k => by
    obtain ⟨v, a, r⟩ := g.sh j d hr
    exact ⟨v, a, k d v S H hq (Go.refl g.w) r⟩
theorem De.int {n : Int} {j} (hq : Q (.int n)) : De F ρ (.Constant (.int n) j pos) Q := fun i => De1.of pe_int fun E S H σ R g k => k _ _ S H hq (Go.refl g.w) rfl
theorem De.bl {n : Bool} {j} (hq : Q (.bl n)) : De F ρ (.Constant (.bool n) j pos) Q := fun i => De1.of pe_bl fun E S H σ R g k => k _ _ S H hq (Go.refl g.w) rfl
theorem De.non {j} (hq : Q .non) : De F ρ (.Constant .none j pos) Q := fun i => De1.of pe_non fun E S H σ R g k => k _ _ S H hq (Go.refl g.w) rfl
theorem De.str {n : Str} {j} (hq : Q (.str n)) : De F ρ (.Constant (.str n) j pos) Q := fun i => De1.of pe_str fun E S H σ R g k => k _ _ S H hq (Go.refl g.w) rfl
/-- a module's constant, a class, as a value -/
theorem De.glob {x : Str} {v : V} {u : Value} {d : D} (hm : ∀ i, (F.cx i).mg x = some u) (hr : RelV v u) (hd : ∀ K hd S, Rep K hd S d v) (hq : Q d) (hg : ∀ i, Gl (F.cx i) x := by intro _; rfl) (h1 : (x == ("__debug__" : Str)) = false := by decide) : De F ρ (.Name x pos) Q := fun i =>
  De1.of (pe_glob (hg i) (hm i) hr h1) fun E S H σ R g k => k d v S H hq (Go.refl g.w) (hd _ _ _)
theorem De.bltn {x : Str} {v : V} {u : Value} {d : D} (hm : ∀ i, (F.cx i).mg x = none) (hv : bootBuiltins x = some u) (hr : RelV v u) (hd : ∀ K hd S, Rep K hd S d v) (hq : Q d) (hg : ∀ i, Gl (F.cx i) x := by intro _; rfl) (hn : x ≠ "__name__" := by decide) (h1 : (x == ("__debug__" : Str)) = false := by decide) : De F ρ (.Name x pos) Q := fun i =>
  De1.of (pe_bltn (hg i) (hm i) hv hr hn h1) fun E S H σ R g k => k d v S H hq (Go.refl g.w) (hd _ _ _)

/-! ### and, or, not, if else -/
theorem De.and1 {op} (h : De F ρ a Q) : De F ρ (.BoolOp op [a] pos) Q := fun i => De1.of (pe_one pe_all) fun E S H σ R g k => h.all g k
theorem De.and {rest : List Expr} (h : De F ρ a (isB fun t => (t = true → De F ρ (.BoolOp .And (b :: rest) pos) Q) ∧ (t = false → Q (.bl false)))) : De F ρ (.BoolOp .And (a :: b :: rest) pos) Q := fun i =>
  De1.of (pe_and pe_all pe_all) fun E S H σ R g k => h.all g fun x v S1 H1 qx g1 rx => by
    obtain ⟨t, rfl, q1, q2⟩ := isB_of qx
    refine ⟨t, rx, ?_⟩
    cases t with
    | true => exact (q1 rfl).all (g.go g1) fun y u S2 H2 qy g2 ry => k y u S2 H2 qy (g1.trans g2) ry
    | false => exact k _ _ S1 H1 (q2 rfl) g1 rfl
theorem De.or {rest : List Expr} (h : De F ρ a (isB fun t => (t = true → Q (.bl true)) ∧ (t = false → De F ρ (.BoolOp .Or (b :: rest) pos) Q))) : De F ρ (.BoolOp .Or (a :: b :: rest) pos) Q := fun i =>
  De1.of (pe_or pe_all pe_all) fun E S H σ R g k => h.all g fun x v S1 H1 qx g1 rx => by
    obtain ⟨t, rfl, q1, q2⟩ := isB_of qx
    refine ⟨t, rx, ?_⟩
    cases t with
    | false => exact (q2 rfl).all (g.go g1) fun y u S2 H2 qy g2 ry => k y u S2 H2 qy (g1.trans g2) ry
    | true => exact k _ _ S1 H1 (q1 rfl) g1 rfl
theorem De.not (h : De F ρ a (isB fun t => Q (.bl (!t)))) : De F ρ (.UnaryOp .Not a pos) Q := fun i =>
  De1.of (pe_not pe_all) fun E S H σ R g k => h.all g fun x v S1 H1 qx g1 rx => by
    obtain ⟨t, rfl, q⟩ := isB_of qx
    exact ⟨t, rx, k _ _ S1 H1 q g1 rfl⟩
theorem De.ite (h : Dt F ρ c fun t => (t = true → De F ρ a Q) ∧ (t = false → De F ρ b Q)) : De F ρ (.IfExp c a b pos) Q := fun i =>
  De1.of (pe_ifExp pt_all pe_all pe_all) fun E S H σ R g k => h.all g fun t S1 H1 q g1 => by
    cases t with
    | true => exact (q.1 rfl).all (g.go g1) fun y u S2 H2 qy g2 ry => k y u S2 H2 qy (g1.trans g2) ry
    | false => exact (q.2 rfl).all (g.go g1) fun y u S2 H2 qy g2 ry => k y u S2 H2 qy (g1.trans g2) ry
/-! tests -/
theorem Dt.and1 {Q : Bool → Prop} (h : Dt F ρ a Q) : Dt F ρ (.BoolOp .And [a] pos) Q := fun i => Dt1.of (pw_and1 pt_all).pt fun E S H σ R g k => h.all g k
theorem Dt.or1 {Q : Bool → Prop} (h : Dt F ρ a Q) : Dt F ρ (.BoolOp .Or [a] pos) Q := fun i => Dt1.of (pw_or1 pt_all).pt fun E S H σ R g k => h.all g k
theorem Dt.and2 {Q : Bool → Prop} (h : Dt F ρ a fun t => (t = true → Dt F ρ b Q) ∧ (t = false → Q false)) : Dt F ρ (.BoolOp .And [a, b] pos) Q := fun i =>
  Dt1.of (pw_and pt_all (pw_and1 pt_all)).pt fun E S H σ R g k => h.all g fun t S1 H1 q g1 => by
    cases t with
    | true => exact (q.1 rfl).all (g.go g1) fun y S2 H2 qy g2 => k y S2 H2 qy (g1.trans g2)
    | false => exact k _ S1 H1 (q.2 rfl) g1
theorem Dt.or2 {Q : Bool → Prop} (h : Dt F ρ a fun t => (t = true → Q true) ∧ (t = false → Dt F ρ b Q)) : Dt F ρ (.BoolOp .Or [a, b] pos) Q := fun i =>
  Dt1.of (pw_or pt_all (pw_or1 pt_all)).pt fun E S H σ R g k => h.all g fun t S1 H1 q g1 => by
    cases t with
    | false => exact (q.2 rfl).all (g.go g1) fun y S2 H2 qy g2 => k y S2 H2 qy (g1.trans g2)
    | true => exact k _ S1 H1 (q.1 rfl) g1
theorem Dt.or3 {Q : Bool → Prop} (h : Dt F ρ a fun t => (t = true → Q true) ∧ (t = false → Dt F ρ b fun t => (t = true → Q true) ∧ (t = false → Dt F ρ c Q))) : Dt F ρ (.BoolOp .Or [a, b, c] pos) Q := fun i => by
  refine Dt1.of (pw_or pt_all (pw_or pt_all (pw_or1 pt_all))).pt fun E S H σ R g k => ?_
  refine h.all g fun t S1 H1 q g1 => ?_
  cases t with
  | true => exact k _ S1 H1 (q.1 rfl) g1
  | false =>
    refine (q.2 rfl).all (g.go g1) fun t S2 H2 q g2 => ?_
    cases t with
    | true => exact k _ S2 H2 (q.1 rfl) (g1.trans g2)
    | false => exact (q.2 rfl).all ((g.go g1).go g2) fun y S3 H3 qy g3 => k y S3 H3 qy ((g1.trans g2).trans g3)
theorem Dt.not {Q : Bool → Prop} (h : Dt F ρ a fun t => Q (!t)) : Dt F ρ (.UnaryOp .Not a pos) Q := fun i =>
  Dt1.of (pt_not pt_all) fun E S H σ R g k => h.all g fun t S1 H1 q g1 => k (!t) S1 H1 q g1
/-- an expression that is True or False, as a test -/
theorem Dt.val {Q : Bool → Prop} (h : De F ρ e (isB Q)) (he : ∀ i, ∀ whole, isTrue e (F.cx i).env whole = (do let v ← whole; standAt e.pos; holding [v] (truthy v)) := by intro _ _; rfl) : Dt F ρ e Q := fun i =>
  Dt1.of (pt_val pe_all (he i)) fun E S H σ R g k => h.all g fun x v S1 H1 qx g1 rx => by
    obtain ⟨t, rfl, q⟩ := isB_of qx
    exact ⟨t, rx, k t S1 H1 q g1⟩
/-- truth of data -/
def dTru (d : D) (Q : Bool → Prop) : Prop := match d with
  | .non => Q false
  | .bl b => Q b
  | .int i => Q (i != 0)
  | .lst l => Q (!l.isEmpty)
  | .tup l => Q (!l.isEmpty)
  | _ => False
theorem Reps.isEmpty {K : PySem.W.Frag} {hd : Option Addr} {S : Hp} {l : List D} {xs : List V} (r : Reps K hd S l xs) : xs.isEmpty = l.isEmpty := by
  have e := r.length
  cases l <;> cases xs <;> first | rfl | cases e
theorem Dt.truth {Q : Bool → Prop} (h : De F ρ e fun d => dTru d Q) (he : ∀ i, ∀ whole, isTrue e (F.cx i).env whole = (do let v ← whole; standAt e.pos; holding [v] (truthy v)) := by intro _ _; rfl) : Dt F ρ e Q := fun i =>
  Dt1.of (pt_truth pe_all (he i)) fun E S H σ R g k => h.all g fun x v S1 H1 qx g1 rx => by
    unfold dTru at qx
    split at qx
    · cases (show v = _ from rx)
      exact ⟨_, rfl, k _ S1 H1 qx g1⟩
    · cases (show v = _ from rx)
      exact ⟨_, rfl, k _ S1 H1 qx g1⟩
    · cases (show v = _ from rx)
      exact ⟨_, rfl, k _ S1 H1 qx g1⟩
    · obtain ⟨p, xs, rfl, e1, r1⟩ := rx
      exact ⟨_, .inl ⟨xs, .of (g1.w.sh _ _ e1), by rw [show xs.isEmpty = _ from Reps.isEmpty r1]⟩, k _ S1 H1 qx g1⟩
    · obtain ⟨p, xs, rfl, e1, r1⟩ := rx
      exact ⟨_, .inr (.inl ⟨xs, Same.sqT g1.w.sh e1, by rw [show xs.isEmpty = _ from Reps.isEmpty r1]⟩), k _ S1 H1 qx g1⟩
    · exact qx.elim
end
end DL
set_option Elab.async false
set_option linter.all false
set_option maxRecDepth 100000
/-! DL3: displays, subscripts, fields, calls at data. -/
namespace DL
open PySem PySem.Spec PyProof.Rows L2

section
variable {F : Fam} {ρ : Rho} {a b c e : Expr} {es : List Expr} {pos : Pos} {Q : DQ}
/-! ### argument lists, displays -/
theorem Da.nil {Q : List D → Prop} (hq : Q []) : Da F ρ [] Q := fun i => Da1.of pa_nil fun E S H σ R g k => k [] [] S H hq (Go.refl g.w) rfl
theorem Da.cons {Q : List D → Prop} (h : De F ρ e fun x => Da F ρ es fun xs => Q (x :: xs)) (hs : ∀ i, starEach (e :: es) (F.cx i).env = (false, eval e (F.cx i).env) :: starEach es (F.cx i).env := by intro _; rfl) : Da F ρ (e :: es) Q := fun i =>
  Da1.of (pa_cons pe_all pa_all (hs i)) fun E S H σ R g k => h.all g fun x v S1 H1 qx g1 rx => qx.all (g.go g1) fun xs vs S2 H2 q2 g2 r2 => k (x :: xs) (v :: vs) S2 H2 q2 (g1.trans g2) ⟨v, vs, rfl, rx.mono g2.s, r2⟩
theorem De.tup {x1} (h : Da F ρ es fun xs => xs.length ≤ sizeLine ∧ Q (.tup xs)) : De F ρ (.Tuple es x1 pos) Q := fun i =>
  De1.of (pe_tup pa_all) fun E S H σ R g k => h.all g fun xs vs S1 H1 q g1 r => ⟨by have e := Reps.length r; omega, fun p hp => by
    have g2 := g1.w.new (o := .tup vs) hp
    exact k _ _ _ _ q.2 (g1.trans g2) ⟨p, vs, rfl, .of upd_same, Reps.mono g2.s r⟩⟩
theorem De.lst (h : Da F ρ es fun xs => xs.length ≤ sizeLine ∧ Q (.lst xs)) : De F ρ (.List es pos) Q := fun i =>
  De1.of (pe_lst pa_all) fun E S H σ R g k => h.all g fun xs vs S1 H1 q g1 r => ⟨by have e := Reps.length r; omega, fun p hp => by
    have g2 := g1.w.new (o := .lst vs) hp
    exact k _ _ _ _ q.2 (g1.trans g2) ⟨p, vs, rfl, upd_same, Reps.mono g2.s r⟩⟩

/-! ### subscripts -/
def dIx (x y : D) (Q : DQ) : Prop := match x, y with
  | .lst l, .int i => 0 ≤ i ∧ ∃ d, l[i.toNat]? = some d ∧ Q d
  | .tup l, .int i => 0 ≤ i ∧ ∃ d, l[i.toNat]? = some d ∧ Q d
  | _, _ => False
theorem atI_of {xs : List V} {i : Int} {v : V} (h : 0 ≤ i) (e : xs[i.toNat]? = some v) : atI xs i = some v := by
  have q := atI_nat (xs := xs) (j := i.toNat) e
  rw [Int.toNat_of_nonneg h] at q
  exact q
theorem De.ix (h : De F ρ a fun x => De F ρ b fun y => dIx x y Q) (hs : PlainIx b := by intro _ _; rfl) : De F ρ (.Subscript a b pos) Q := fun i =>
  De1.of (pe_ix ix_seq pe_all pe_all hs) fun E S H σ R g k => h.all g fun x v S1 H1 qx g1 rx => qx.all (g.go g1) fun y u S2 H2 qy g2 ry => by
    have g12 := g1.trans g2
    have rx := rx.mono g2.s
    unfold dIx at qy
    split at qy
    · cases (show u = _ from ry)
      obtain ⟨p, xs, rfl, e1, r1⟩ := rx
      obtain ⟨h0, d, e2, q⟩ := qy
      obtain ⟨w, e3, r3⟩ := Reps.get r1 e2
      exact .inl ⟨p, xs, _, w, rfl, rfl, .of (g2.w.sh _ _ e1), atI_of h0 e3, k d w S2 H2 q g12 r3⟩
    · cases (show u = _ from ry)
      obtain ⟨p, xs, rfl, e1, r1⟩ := rx
      obtain ⟨h0, d, e2, q⟩ := qy
      obtain ⟨w, e3, r3⟩ := Reps.get r1 e2
      exact .inr (.inl ⟨p, xs, _, w, rfl, rfl, Same.sqT g2.w.sh e1, atI_of h0 e3, k d w S2 H2 q g12 r3⟩)
    · exact qy.elim
/-- x[lo:hi] -/
theorem reps_ints {K : PySem.W.Frag} {hd : Option Addr} {S : Hp} : ∀ l : List Int, Reps K hd S (l.map D.int) (l.map V.int)
  | [] => rfl
  | i :: l => Reps.cons (d := .int i) rfl (reps_ints l)
def dSl (x : D) (lo hi : Option Int) (Q : DQ) : Prop := match x with
  | .lst l => Q (.lst ((l.drop (HT.sIx l.length 0 lo)).take (HT.sIx l.length l.length hi - HT.sIx l.length 0 lo)))
  | .tup l => Q (.tup ((l.drop (HT.sIx l.length 0 lo)).take (HT.sIx l.length l.length hi - HT.sIx l.length 0 lo)))
  | .frl l => Q (.lst ((((l.map D.int)).drop (HT.sIx (l.map D.int).length 0 lo)).take (HT.sIx (l.map D.int).length (l.map D.int).length hi - HT.sIx (l.map D.int).length 0 lo)))
  | _ => False
theorem Reps.cut {K : PySem.W.Frag} {hd : Option Addr} {S : Hp} {l : List D} {xs : List V} (r : Reps K hd S l xs) (lo hi : Option Int) :
    Reps K hd S ((l.drop (HT.sIx l.length 0 lo)).take (HT.sIx l.length l.length hi - HT.sIx l.length 0 lo)) (cutV xs lo hi) := by
  unfold cutV
  rw [Reps.length r]
  exact Reps.take _ (Reps.drop _ r)
theorem sl_any {X : Cx} : SlR X (fun x lo hi H Q => rSlL X.K x lo hi H Q ∨ rSlA X.K x lo hi H Q) := by
  intro pins s σ H x v vl vu lo hi sl Q I rx hs pl pu h
  rcases h with h | h
  · exact sl_list pins s σ H x v vl vu lo hi sl Q I rx hs pl pu h
  · exact sl_tupA pins s σ H x v vl vu lo hi sl Q I rx hs pl pu h
theorem slice_fin {X : Cx} {E : Ent} {S H S1 H1 : Hp} {x : D} {v : V} {lo hi : Option Int} {R : VK} (q : dSl x lo hi Q) (rx : Rep X.K E.hd S1 x v) (g1 : Go X.K E S H S1 H1)
    (k : ∀ d v S' H', Q d → Go X.K E S H S' H' → Rep X.K E.hd S' d v → R v H') : rSlL X.K v lo hi H1 R ∨ rSlA X.K v lo hi H1 R := by
  unfold dSl at q
  split at q
  · obtain ⟨p, xs, rfl, e1, r1⟩ := rx
    refine .inl ⟨p, xs, rfl, .of (g1.w.sh _ _ e1), fun t ht => ?_⟩
    have g2 := g1.w.new (o := .lst (cutV xs lo hi)) ht
    exact k _ _ _ _ q (g1.trans g2) ⟨t, _, rfl, upd_same, Reps.mono g2.s (Reps.cut r1 lo hi)⟩
  · obtain ⟨p, xs, rfl, e1, r1⟩ := rx
    have rc := Reps.cut r1 lo hi
    refine .inr ⟨p, xs, rfl, Same.sqT g1.w.sh e1, fun hw => ?_, fun _ t ht => ?_⟩
    · refine k _ _ S1 H1 q g1 ⟨p, xs, rfl, e1, ?_⟩
      have e2 : cutV xs lo hi = xs := by
        unfold cutV
        rw [hw.1, hw.2, List.drop_zero, Nat.sub_zero, List.take_length]
      rw [e2] at rc
      exact rc
    · have g2 := g1.w.new (o := .tup (cutV xs lo hi)) ht
      exact k _ _ _ _ q (g1.trans g2) ⟨t, _, rfl, .of upd_same, Reps.mono g2.s rc⟩
  · obtain ⟨p, rfl, e1⟩ := rx
    rename_i l
    refine .inl ⟨p, _, rfl, Same.sqL g1.w.sh e1, fun t ht => ?_⟩
    have g2 := g1.w.new (o := .lst (cutV (l.map V.int) lo hi)) ht
    exact k _ _ _ _ q (g1.trans g2) ⟨t, _, rfl, upd_same, Reps.mono g2.s (Reps.cut (reps_ints l) lo hi)⟩
  · exact q.elim
abbrev isI (Q : Int → Prop) : DQ := fun d => match d with
  | .int i => Q i
  | _ => False
theorem isI_of {Q : Int → Prop} {d : D} (h : isI Q d) : ∃ i, d = .int i ∧ Q i := by
  cases d with
  | int i => exact ⟨i, rfl, h⟩
  | _ => exact h.elim
/-- x[lo:] -/
theorem De.slLo {p2} (h : De F ρ a fun x => De F ρ b (isI fun lo => dSl x (some lo) none Q)) : De F ρ (.Subscript a (.Slice (some b) none none p2) pos) Q := fun i =>
  De1.of (pe_slice sl_any pe_all (po_some pe_all) po_none) fun E S H σ R g k => h.all g fun x v S1 H1 qx g1 rx => qx.all (g.go g1) fun y u S2 H2 qy g2 ry => by
    obtain ⟨lo, rfl, q⟩ := isI_of qy
    exact ⟨lo, ry, slice_fin q (rx.mono g2.s) (g1.trans g2) k⟩
/-- x[:hi] -/
theorem De.slHi {p2} (h : De F ρ a fun x => De F ρ b (isI fun hi => dSl x none (some hi) Q)) : De F ρ (.Subscript a (.Slice none (some b) none p2) pos) Q := fun i =>
  De1.of (pe_slice sl_any pe_all po_none (po_some pe_all)) fun E S H σ R g k => h.all g fun x v S1 H1 qx g1 rx => qx.all (g.go g1) fun y u S2 H2 qy g2 ry => by
    obtain ⟨lo, rfl, q⟩ := isI_of qy
    exact ⟨lo, ry, slice_fin q (rx.mono g2.s) (g1.trans g2) k⟩

/-! ### fields -/
def dFld (K : PySem.W.Frag) (f : Str) (x : D) (Q : DQ) : Prop := match x with
  | .ins C ns ds => Cls K C ∧ NoAttr K C f ∧ ∃ d, (ns.zip ds).lookup f = some d ∧ Q d
  | _ => False
theorem zip_look {K : PySem.W.Frag} {hd : Option Addr} {S : Hp} {f : Str} {d : D} : ∀ {ns : List Str} {ds : List D} {xs : List V}, Reps K hd S ds xs → (ns.zip ds).lookup f = some d → ∃ v, (ns.zip xs).lookup f = some v ∧ Rep K hd S d v
  | [], _, _, _, h => by simp at h
  | n :: ns, [], _, _, h => by simp at h
  | n :: ns, x :: ds, xs, r, h => by
    obtain ⟨y, t, rfl, r1, r2⟩ := r
    rw [List.zip_cons_cons, List.lookup_cons] at h ⊢
    cases q : f == n with
    | true =>
      rw [q] at h
      cases h
      exact ⟨y, rfl, r1⟩
    | false =>
      rw [q] at h
      exact zip_look r2 h
theorem De.fld {f : Str} (h : De F ρ e fun x => ∀ i, dFld (F.cx i).K f x Q) (hb : ∀ i, attributeBase e f (F.cx i).env (eval e (F.cx i).env) = eval e (F.cx i).env := by intro _; rfl) : De F ρ (.Attribute e f pos) Q := fun i =>
  De1.of (pe_fld pe_all (hb i)) fun E S H σ R g k => h.all g fun x v S1 H1 qx g1 rx => by
    have qx := qx i
    unfold dFld at qx
    split at qx
    · obtain ⟨p, dx, xs, rfl, e1, z, r1⟩ := rx
      obtain ⟨c, n, d, l, q⟩ := qx
      obtain ⟨w, l2, r2⟩ := zip_look r1 l
      exact ⟨p, _, dx, _, w, rfl, g1.w.sh _ _ e1, c, n, l2, k d w S1 H1 q g1 r2⟩
    · exact qx.elim

/-! ### calls of defs -/
/-- the def at a module's name keeps a meaning -/
structure Callee (G : Glo) (x : Str) (spec : DSpec) (k : Nat) : Prop where
  ok : ∃ f fd ps, FnOk G.P G.w G.K G.mg G.base CX0 k f fd ps (spD G.K spec) ∧ G.mg x = some (.ref f) ∧ PySem.W.keepIn G.K (.ref f) = true ∧ Binds G.K fd ps []
/-- a context of the program -/
def Of (G : Glo) (X : Cx) : Prop := X.prog = G.P ∧ X.w = G.w ∧ X.K = G.K ∧ X.mg = G.mg ∧ X.base = G.base
theorem Callee.at {G : Glo} {X : Cx} {x : Str} {spec : DSpec} {k : Nat} (c : Callee G x spec k) (o : Of G X) : ∃ f fd ps, FnOk X.prog X.w X.K X.mg X.base CX0 k f fd ps (spD X.K spec) ∧ X.mg x = some (.ref f) ∧ PySem.W.keepIn X.K (.ref f) = true ∧ Binds X.K fd ps [] := by
  obtain ⟨h1, h2, h3, h4, h5⟩ := o
  rw [h1, h2, h3, h4, h5]
  exact c.ok
theorem De.call {G : Glo} {x : Str} {p : Pos} {spec : DSpec} {k : Nat} (c : Callee G x spec k) (h : Da F ρ (e :: es) fun ds => spec ds Q) (o : ∀ i, Of G (F.cx i) := by intro _; exact ⟨rfl, rfl, rfl, rfl, rfl⟩) (hk : k ≤ F.k := by exact Nat.le_of_ble_eq_true rfl)
    (hg : ∀ i, Gl (F.cx i) x := by intro _; rfl) (hdb : (x == ("__debug__" : Str)) = false := by decide) (he : ∀ i, starEach (e :: es) (F.cx i).env = (false, eval e (F.cx i).env) :: starEach es (F.cx i).env := by intro _; rfl) (hpl : ∀ i, (backTo pos (starEach es (F.cx i).env)).any (·.1) = false := by intro _; rfl) :
    De F ρ (.Call (.Name x p) (e :: es) [] pos) Q := fun i => by
  obtain ⟨f, fd, ps, G', hm, kp, b⟩ := c.at (o i)
  refine De1.of (pe_call G' ((F.room i).mono hk) (hg i) hm kp b .nil pass0 pa_all hdb (he i) (hpl i)) fun E S H σ R g k => ?_
  refine h.all g fun ds vs S1 H1 q g1 r => ?_
  rw [List.append_nil]
  exact ⟨E, S1, ds, Q, g1.w, r, q, fun d v S2 H2 qd g2 rd => k d v S2 H2 qd (g1.trans g2) rd⟩

/-! ### built-ins -/
theorem De.bi {x : Str} {p : Pos} {id : String} {r : F.ι → List V → Hp → VK → Prop} (hc : ∀ i, CallR (F.cx i) (.builtin id) (r i)) (hm : ∀ i, (F.cx i).mg x = none) (hv : bootBuiltins x = some (.builtin id)) {d : List D → DQ → Prop}
    (hd : ∀ i E S H ds vs R, d ds Q → Wld (F.cx i).K E S H → Reps (F.cx i).K E.hd S ds vs → (∀ d v S' H', Q d → Go (F.cx i).K E S H S' H' → Rep (F.cx i).K E.hd S' d v → R v H') → r i vs H R) (h : Da F ρ (e :: es) fun ds => d ds Q)
    (hg : ∀ i, Gl (F.cx i) x := by intro _; rfl) (hn : x ≠ "__name__" := by decide) (hdb : (x == ("__debug__" : Str)) = false := by decide) (he : ∀ i, starEach (e :: es) (F.cx i).env = (false, eval e (F.cx i).env) :: starEach es (F.cx i).env := by intro _; rfl) (hpl : ∀ i, (backTo pos (starEach es (F.cx i).env)).any (·.1) = false := by intro _; rfl) :
    De F ρ (.Call (.Name x p) (e :: es) [] pos) Q := fun i =>
  De1.of (pe_callB (hc i) (hg i) (hm i) hv pa_all hn hdb (he i) (hpl i)) fun E S H σ R g k => h.all g fun ds vs S1 H1 q g1 rr => hd i E S1 H1 ds vs R q g1.w rr fun d v S2 H2 qd g2 rd => k d v S2 H2 qd (g1.trans g2) rd
theorem De.bty {x : Str} {p : Pos} {T : String} {r : F.ι → List V → Hp → VK → Prop} (hc : ∀ i, CallR (F.cx i) (.type T) (r i)) (hm : ∀ i, (F.cx i).mg x = none) (hv : bootBuiltins x = some (.type T)) {d : List D → DQ → Prop}
    (hd : ∀ i E S H ds vs R, d ds Q → Wld (F.cx i).K E S H → Reps (F.cx i).K E.hd S ds vs → (∀ d v S' H', Q d → Go (F.cx i).K E S H S' H' → Rep (F.cx i).K E.hd S' d v → R v H') → r i vs H R) (h : Da F ρ (e :: es) fun ds => d ds Q)
    (hg : ∀ i, Gl (F.cx i) x := by intro _; rfl) (hn : x ≠ "__name__" := by decide) (hdb : (x == ("__debug__" : Str)) = false := by decide) (he : ∀ i, starEach (e :: es) (F.cx i).env = (false, eval e (F.cx i).env) :: starEach es (F.cx i).env := by intro _; rfl) (hpl : ∀ i, (backTo pos (starEach es (F.cx i).env)).any (·.1) = false := by intro _; rfl) :
    De F ρ (.Call (.Name x p) (e :: es) [] pos) Q := fun i =>
  De1.of (pe_callTy (hc i) (hg i) (hm i) hv pa_all hn hdb (he i) (hpl i)) fun E S H σ R g k => h.all g fun ds vs S1 H1 q g1 rr => hd i E S1 H1 ds vs R q g1.w rr fun d v S2 H2 qd g2 rd => k d v S2 H2 qd (g1.trans g2) rd
theorem Reps.one {K : PySem.W.Frag} {hd : Option Addr} {S : Hp} {d : D} {vs : List V} (r : Reps K hd S [d] vs) : ∃ v, vs = [v] ∧ Rep K hd S d v := by
  obtain ⟨v, t, rfl, r1, r2⟩ := r
  cases (show t = _ from r2)
  exact ⟨v, rfl, r1⟩
theorem Reps.two {K : PySem.W.Frag} {hd : Option Addr} {S : Hp} {d d' : D} {vs : List V} (r : Reps K hd S [d, d'] vs) : ∃ v v', vs = [v, v'] ∧ Rep K hd S d v ∧ Rep K hd S d' v' := by
  obtain ⟨v, t, rfl, r1, r2⟩ := r
  obtain ⟨v', rfl, r3⟩ := Reps.one r2
  exact ⟨v, v', rfl, r1, r3⟩

def dLen (ds : List D) (Q : DQ) : Prop := match ds with
  | [.lst l] => Q (.int l.length)
  | [.tup l] => Q (.int l.length)
  | _ => False
theorem De.len {p : Pos} (hm : ∀ i, (F.cx i).mg "len" = none) (h : Da F ρ (e :: es) fun ds => dLen ds Q) (hg : ∀ i, Gl (F.cx i) "len" := by intro _; rfl) (he : ∀ i, starEach (e :: es) (F.cx i).env = (false, eval e (F.cx i).env) :: starEach es (F.cx i).env := by intro _; rfl) (hpl : ∀ i, (backTo pos (starEach es (F.cx i).env)).any (·.1) = false := by intro _; rfl) :
    De F ρ (.Call (.Name "len" p) (e :: es) [] pos) Q := by
  refine De.bi (r := fun i => _) (fun i => call_len_seq) hm PySem.boot_len (d := dLen) (fun i E S H ds vs R q w rr k => ?_) h hg (by decide) (by decide) he hpl
  unfold dLen at q
  split at q
  · obtain ⟨v, rfl, ⟨p, xs, rfl, e1, r1⟩⟩ := Reps.one rr
    refine ⟨p, xs, rfl, .inl (.of (w.sh _ _ e1)), k _ _ S H q (Go.refl w) ?_⟩
    rw [Reps.length r1]
    exact rfl
  · obtain ⟨v, rfl, ⟨p, xs, rfl, e1, r1⟩⟩ := Reps.one rr
    refine ⟨p, xs, rfl, .inr (Same.sqT w.sh e1), k _ _ S H q (Go.refl w) ?_⟩
    rw [Reps.length r1]
    exact rfl
  · exact q.elim
def dInt (ds : List D) (Q : DQ) : Prop := match ds with
  | [.int i] => Q (.int i)
  | [.bl b] => Q (.int (if b then 1 else 0))
  | _ => False
theorem De.toInt {p : Pos} (hm : ∀ i, (F.cx i).mg "int" = none) (h : Da F ρ (e :: es) fun ds => dInt ds Q) (hg : ∀ i, Gl (F.cx i) "int" := by intro _; rfl) (he : ∀ i, starEach (e :: es) (F.cx i).env = (false, eval e (F.cx i).env) :: starEach es (F.cx i).env := by intro _; rfl) (hpl : ∀ i, (backTo pos (starEach es (F.cx i).env)).any (·.1) = false := by intro _; rfl) :
    De F ρ (.Call (.Name "int" p) (e :: es) [] pos) Q := by
  refine De.bty (r := fun i => _) (fun i => call_int1) hm boot_int (d := dInt) (fun i E S H ds vs R q w rr k => ?_) h hg (by decide) (by decide) he hpl
  unfold dInt at q
  split at q
  · obtain ⟨v, rfl, r1⟩ := Reps.one rr
    cases (show v = _ from r1)
    exact .inl ⟨_, rfl, k _ _ S H q (Go.refl w) rfl⟩
  · obtain ⟨v, rfl, r1⟩ := Reps.one rr
    cases (show v = _ from r1)
    exact .inr ⟨_, rfl, k _ _ S H q (Go.refl w) rfl⟩
  · exact q.elim
def dAbs (ds : List D) (Q : DQ) : Prop := match ds with
  | [.int i] => Q (.int (if i < 0 then -i else i))
  | _ => False
theorem De.abs {p : Pos} (hm : ∀ i, (F.cx i).mg "abs" = none) (h : Da F ρ (e :: es) fun ds => dAbs ds Q) (hg : ∀ i, Gl (F.cx i) "abs" := by intro _; rfl) (he : ∀ i, starEach (e :: es) (F.cx i).env = (false, eval e (F.cx i).env) :: starEach es (F.cx i).env := by intro _; rfl) (hpl : ∀ i, (backTo pos (starEach es (F.cx i).env)).any (·.1) = false := by intro _; rfl) :
    De F ρ (.Call (.Name "abs" p) (e :: es) [] pos) Q := by
  refine De.bi (r := fun i => _) (fun i => call_abs) hm (by decide +kernel) (d := dAbs) (fun i E S H ds vs R q w rr k => ?_) h hg (by decide) (by decide) he hpl
  unfold dAbs at q
  split at q
  · obtain ⟨v, rfl, r1⟩ := Reps.one rr
    cases (show v = _ from r1)
    exact ⟨_, rfl, k _ _ S H q (Go.refl w) rfl⟩
  · exact q.elim
def dMin2 (ds : List D) (Q : DQ) : Prop := match ds with
  | [.int i, .int j] => Q (.int (if j < i then j else i))
  | _ => False
theorem De.min2 {p : Pos} (hm : ∀ i, (F.cx i).mg "min" = none) (h : Da F ρ (e :: es) fun ds => dMin2 ds Q) (hg : ∀ i, Gl (F.cx i) "min" := by intro _; rfl) (he : ∀ i, starEach (e :: es) (F.cx i).env = (false, eval e (F.cx i).env) :: starEach es (F.cx i).env := by intro _; rfl) (hpl : ∀ i, (backTo pos (starEach es (F.cx i).env)).any (·.1) = false := by intro _; rfl) :
    De F ρ (.Call (.Name "min" p) (e :: es) [] pos) Q := by
  refine De.bi (r := fun i => _) (fun i => call_min2 (F.calm i)) hm (by decide +kernel) (d := dMin2) (fun i E S H ds vs R q w rr k => ?_) h hg (by decide) (by decide) he hpl
  unfold dMin2 at q
  split at q
  · obtain ⟨v, v', rfl, r1, r2⟩ := Reps.two rr
    cases (show v = _ from r1)
    cases (show v' = _ from r2)
    exact ⟨_, _, rfl, k _ _ S H q (Go.refl w) rfl⟩
  · exact q.elim
def dTuple (ds : List D) (Q : DQ) : Prop := match ds with
  | [.lst l] => Q (.tup l)
  | [.tup l] => Q (.tup l)
  | _ => False
theorem De.toTup {p : Pos} (hm : ∀ i, (F.cx i).mg "tuple" = none) (h : Da F ρ (e :: es) fun ds => dTuple ds Q) (hg : ∀ i, Gl (F.cx i) "tuple" := by intro _; rfl) (he : ∀ i, starEach (e :: es) (F.cx i).env = (false, eval e (F.cx i).env) :: starEach es (F.cx i).env := by intro _; rfl) (hpl : ∀ i, (backTo pos (starEach es (F.cx i).env)).any (·.1) = false := by intro _; rfl) :
    De F ρ (.Call (.Name "tuple" p) (e :: es) [] pos) Q := by
  refine De.bty (r := fun i => _) (fun i => call_tuple_of) hm boot_tuple (d := dTuple) (fun i E S H ds vs R q w rr k => ?_) h hg (by decide) (by decide) he hpl
  unfold dTuple at q
  split at q
  · obtain ⟨v, rfl, ⟨p, xs, rfl, e1, r1⟩⟩ := Reps.one rr
    refine ⟨p, xs, rfl, .inl ⟨.of (w.sh _ _ e1), fun t ht => ?_⟩⟩
    have g := w.new (o := .tup xs) ht
    exact k _ _ _ _ q g ⟨t, xs, rfl, .of upd_same, Reps.mono g.s r1⟩
  · obtain ⟨v, rfl, ⟨p, xs, rfl, e1, r1⟩⟩ := Reps.one rr
    exact ⟨p, xs, rfl, .inr ⟨Same.sqT w.sh e1, k _ _ S H q (Go.refl w) ⟨p, xs, rfl, e1, r1⟩⟩⟩
  · exact q.elim
def dList (ds : List D) (Q : DQ) : Prop := match ds with
  | [.lst l] => Q (.lst l)
  | [.tup l] => Q (.lst l)
  | _ => False
theorem De.toLst {p : Pos} (hm : ∀ i, (F.cx i).mg "list" = none) (h : Da F ρ (e :: es) fun ds => dList ds Q) (hg : ∀ i, Gl (F.cx i) "list" := by intro _; rfl) (he : ∀ i, starEach (e :: es) (F.cx i).env = (false, eval e (F.cx i).env) :: starEach es (F.cx i).env := by intro _; rfl) (hpl : ∀ i, (backTo pos (starEach es (F.cx i).env)).any (·.1) = false := by intro _; rfl) :
    De F ρ (.Call (.Name "list" p) (e :: es) [] pos) Q := by
  refine De.bty (r := fun i => _) (fun i => call_list_of) hm boot_list (d := dList) (fun i E S H ds vs R q w rr k => ?_) h hg (by decide) (by decide) he hpl
  unfold dList at q
  split at q
  · obtain ⟨v, rfl, ⟨p, xs, rfl, e1, r1⟩⟩ := Reps.one rr
    refine ⟨p, xs, rfl, .inl (.of (w.sh _ _ e1)), fun t ht => ?_⟩
    have g := w.new (o := .lst xs) ht
    exact k _ _ _ _ q g ⟨t, xs, rfl, upd_same, Reps.mono g.s r1⟩
  · obtain ⟨v, rfl, ⟨p, xs, rfl, e1, r1⟩⟩ := Reps.one rr
    refine ⟨p, xs, rfl, .inr (Same.sqT w.sh e1), fun t ht => ?_⟩
    have g := w.new (o := .lst xs) ht
    exact k _ _ _ _ q g ⟨t, xs, rfl, upd_same, Reps.mono g.s r1⟩
  · exact q.elim
def dSum (ds : List D) (Q : DQ) : Prop := match ds with
  | [.lst l] => ∃ ns : List Int, l = ns.map D.int ∧ Q (.int ns.sum)
  | _ => False
theorem De.sum {p : Pos} (hm : ∀ i, (F.cx i).mg "sum" = none) (h : Da F ρ (e :: es) fun ds => dSum ds Q) (hg : ∀ i, Gl (F.cx i) "sum" := by intro _; rfl) (he : ∀ i, starEach (e :: es) (F.cx i).env = (false, eval e (F.cx i).env) :: starEach es (F.cx i).env := by intro _; rfl) (hpl : ∀ i, (backTo pos (starEach es (F.cx i).env)).any (·.1) = false := by intro _; rfl) :
    De F ρ (.Call (.Name "sum" p) (e :: es) [] pos) Q := by
  refine De.bi (r := fun i => _) (fun i => cr_sum (F.calm i)) hm (by decide +kernel) (d := dSum) (fun i E S H ds vs R q w rr k => ?_) h hg (by decide) (by decide) he hpl
  unfold dSum at q
  split at q
  · obtain ⟨ns, rfl, q⟩ := q
    obtain ⟨v, rfl, ⟨p, xs, rfl, e1, r1⟩⟩ := Reps.one rr
    rw [Reps.ints r1] at e1
    exact ⟨p, ns, rfl, .of (w.sh _ _ e1), k _ _ S H q (Go.refl w) rfl⟩
  · exact q.elim
theorem Reps.bls {K : PySem.W.Frag} {hd : Option Addr} {S : Hp} : ∀ {l : List Bool} {xs : List V}, Reps K hd S (l.map D.bl) xs → xs = l.map V.bl
  | [], _, h => h
  | d :: ds, xs, h => by
    obtain ⟨x, r, h1, h2, h3⟩ := h
    have h2 : x = .bl d := h2
    rw [h1, h2, Reps.bls h3]
    rfl
def dAll (ds : List D) (Q : DQ) : Prop := match ds with
  | [.lst l] => ∃ ns : List Bool, l = ns.map D.bl ∧ Q (.bl (ns.all id))
  | _ => False
theorem De.allB {p : Pos} (hm : ∀ i, (F.cx i).mg "all" = none) (h : Da F ρ (e :: es) fun ds => dAll ds Q) (hg : ∀ i, Gl (F.cx i) "all" := by intro _; rfl) (he : ∀ i, starEach (e :: es) (F.cx i).env = (false, eval e (F.cx i).env) :: starEach es (F.cx i).env := by intro _; rfl) (hpl : ∀ i, (backTo pos (starEach es (F.cx i).env)).any (·.1) = false := by intro _; rfl) :
    De F ρ (.Call (.Name "all" p) (e :: es) [] pos) Q := by
  refine De.bi (r := fun i => _) (fun i => cr_all (F.calm i)) hm (by decide +kernel) (d := dAll) (fun i E S H ds vs R q w rr k => ?_) h hg (by decide) (by decide) he hpl
  unfold dAll at q
  split at q
  · obtain ⟨ns, rfl, q⟩ := q
    obtain ⟨v, rfl, ⟨p, xs, rfl, e1, r1⟩⟩ := Reps.one rr
    rw [Reps.bls r1] at e1
    exact ⟨p, ns, rfl, .of (w.sh _ _ e1), k _ _ S H q (Go.refl w) rfl⟩
  · exact q.elim
def dSortI (ds : List D) (Q : DQ) : Prop := match ds with
  | [.lst l] => ∃ ns : List Int, l = ns.map D.int ∧ ∀ ns' : List Int, ns'.Perm ns → ns'.Pairwise (· ≤ ·) → Q (.lst (ns'.map D.int))
  | _ => False
theorem De.sortI {p : Pos} (hm : ∀ i, (F.cx i).mg "sorted" = none) (h : Da F ρ (e :: es) fun ds => dSortI ds Q) (hg : ∀ i, Gl (F.cx i) "sorted" := by intro _; rfl) (he : ∀ i, starEach (e :: es) (F.cx i).env = (false, eval e (F.cx i).env) :: starEach es (F.cx i).env := by intro _; rfl) (hpl : ∀ i, (backTo pos (starEach es (F.cx i).env)).any (·.1) = false := by intro _; rfl) :
    De F ρ (.Call (.Name "sorted" p) (e :: es) [] pos) Q := by
  refine De.bi (r := fun i => _) (fun i => cr_sortedI) hm (by decide +kernel) (d := dSortI) (fun i E S H ds vs R q w rr k => ?_) h hg (by decide) (by decide) he hpl
  unfold dSortI at q
  split at q
  · obtain ⟨ns, rfl, q⟩ := q
    obtain ⟨v, rfl, ⟨p, xs, rfl, e1, r1⟩⟩ := Reps.one rr
    rw [Reps.ints r1] at e1
    refine ⟨p, ns, rfl, .of (w.sh _ _ e1), fun ns' t h1 h2 ht => ?_⟩
    have g := w.new (o := .lst (ns'.map V.int)) ht
    exact k _ _ _ _ (q ns' h1 h2) g ⟨t, _, rfl, upd_same, Reps.of_ints ns'⟩
  · exact q.elim
end
end DL
set_option Elab.async false
set_option linter.all false
set_option maxRecDepth 100000
/-! DL4: what is walked, targets, comprehensions, loops at data. -/
namespace DL
open PySem PySem.Spec PyProof.Rows L2

/-! ### an own, new object is shared -/
section
variable {K : PySem.W.Frag} {E : Ent} {S H S' H' : Hp} {p : Addr} {o o' : HO} {ρ : Rho} {σ : L2.St}
theorem Wld.nhd (w : Wld K E S H) (hp : H p = none) : E.hd ≠ some p := fun q => by
  obtain ⟨u, q'⟩ := w.hand.there q
  rw [hp] at q'
  cases q'
theorem Wld.f0 (w : Wld K E S H) (hp : H p = none) : E.H0 p = none := by
  cases r : E.H0 p with
  | none => rfl
  | some v =>
    rw [w.fr p v r (w.nhd hp)] at hp
    cases hp
theorem Go.share (g : Go K E S H S' H') (hp : H p = none) (w0 : E.hd ≠ some p) (f0 : E.H0 p = none) (sp : S' p = none) (e : H' p = some o) : Go K E S H (upd S' p o) H' := by
  have eS : Same S' (upd S' p o) := fun b u e => by rw [upd_ne (ne_of_none e sp)]; exact e
  refine ⟨g.s.trans eS, g.h, fun b u q n => ?_, fun b u q => ?_, g.w.s0.trans eS, g.w.hand.same eS (fun _ _ _ q => q), fun a q => ?_, g.w.fr, fun b u q n => ?_⟩
  · by_cases z : b = p
    · rw [z]; exact hp
    · rw [upd_ne z] at q
      exact g.nw b u q n
  · by_cases z : b = p
    · subst z
      rw [upd_same] at q
      rw [← q]
      exact e
    · rw [upd_ne z] at q
      exact g.w.sh b u q
  · rw [upd_ne (fun z => w0 (by rw [← z]; exact q))]
    exact g.w.nh a q
  · by_cases z : b = p
    · rw [z]; exact f0
    · rw [upd_ne z] at q
      exact g.w.nw b u q n
/-- an own object is written -/
theorem Wld.write (w : Wld K E S H) (nh : E.hd ≠ some p) (f0 : E.H0 p = none) (sp : S p = none) (o : HO) : Wld K E S (upd H p o) := by
  refine ⟨fun b u q => ?_, w.s0, w.hand.same (Same.refl _) (fun a u q r => ?_), w.nh, fun b u q n => ?_, w.nw⟩
  · rw [upd_ne (ne_of_none q sp)]
    exact w.sh b u q
  · rw [upd_ne (fun z => nh (by rw [← z]; exact q))]
    exact r
  · rw [upd_ne (ne_of_none q f0)]
    exact w.fr b u q n

/-! ### slots set -/
theorem EnvOk.set {d : D} {v : V} (j : Nat) (g : EnvOk K E S H ρ σ) (r : Rep K E.hd S d v) : EnvOk K E S H (ρ.set j (.sh d)) (σ.set j (some v)) := by
  have hl := g.len
  refine ⟨g.w, by rw [List.length_set, List.length_set]; exact hl, fun i d' q => ?_, fun i o q => ?_, fun i i' o o' a q q' e e' => ?_⟩
  · by_cases z : j = i
    · subst z
      have hj := (List.getElem?_eq_some_iff.mp q).1
      rw [List.length_set] at hj
      rw [List.getElem?_set_self hj] at q
      cases q
      exact ⟨v, List.getElem?_set_self (by omega), r⟩
    · rw [List.getElem?_set_ne z] at q ⊢
      exact g.sh i d' q
  · by_cases z : j = i
    · subst z
      have hj := (List.getElem?_eq_some_iff.mp q).1
      rw [List.length_set] at hj
      rw [List.getElem?_set_self hj] at q
      cases q
    · rw [List.getElem?_set_ne z] at q ⊢
      exact g.ow i o q
  · have n1 : j ≠ i := fun z => by
      subst z
      have hj := (List.getElem?_eq_some_iff.mp q).1
      rw [List.length_set] at hj
      rw [List.getElem?_set_self hj] at q
      cases q
    have n2 : j ≠ i' := fun z => by
      subst z
      have hj := (List.getElem?_eq_some_iff.mp q').1
      rw [List.length_set] at hj
      rw [List.getElem?_set_self hj] at q'
      cases q'
    rw [List.getElem?_set_ne n1] at q e
    rw [List.getElem?_set_ne n2] at q' e'
    exact g.dj i i' o o' a q q' e e'
/-- forgotten slots -/
theorem EnvOk.unset (j : Nat) (g : EnvOk K E S H ρ σ) (x : Option V) : EnvOk K E S H (ρ.set j .no) (σ.set j x) := by
  have hl := g.len
  have nj : ∀ {i : Nat} {s : Sl}, s ≠ .no → (ρ.set j .no)[i]? = some s → j ≠ i := fun {i s} hs q z => by
    subst z
    have hj := (List.getElem?_eq_some_iff.mp q).1
    rw [List.length_set] at hj
    rw [List.getElem?_set_self hj] at q
    exact hs (Option.some.inj q).symm
  refine ⟨g.w, by rw [List.length_set, List.length_set]; exact hl, fun i d' q => ?_, fun i o q => ?_, fun i i' o o' a q q' e e' => ?_⟩
  · have n1 := nj (by intro z; cases z) q
    rw [List.getElem?_set_ne n1] at q ⊢
    exact g.sh i d' q
  · have n1 := nj (by intro z; cases z) q
    rw [List.getElem?_set_ne n1] at q ⊢
    exact g.ow i o q
  · have n1 := nj (by intro z; cases z) q
    have n2 := nj (by intro z; cases z) q'
    rw [List.getElem?_set_ne n1] at q e
    rw [List.getElem?_set_ne n2] at q' e'
    exact g.dj i i' o o' a q q' e e'
def wipeR (ρ : Rho) : List Nat → Rho
  | [] => ρ
  | v :: vs => (wipeR ρ vs).set v .no
theorem EnvOk.wipe (g : EnvOk K E S H ρ σ) : ∀ vs : List Nat, EnvOk K E S H (wipeR ρ vs) (L2.wipe σ vs)
  | [] => g
  | v :: vs => (EnvOk.wipe g vs).unset v none
theorem wipe_set {x : Option V} : ∀ {vs : List Nat} {σ : L2.St} {j : Nat}, j ∈ vs → L2.wipe (σ.set j x) vs = L2.wipe σ vs
  | [], _, _, h => absurd h (by simp)
  | v :: vs, σ, j, h => by
    show (L2.wipe (σ.set j x) vs).set v none = (L2.wipe σ vs).set v none
    by_cases hj : j ∈ vs
    · rw [wipe_set hj]
    · have e : j = v := by
        rcases List.mem_cons.mp h with q | q
        · exact q
        · exact absurd q hj
      subst e
      have c : ∀ (vs : List Nat) (σ : L2.St), j ∉ vs → L2.wipe (σ.set j x) vs = (L2.wipe σ vs).set j x := by
        intro vs
        induction vs with
        | nil => intro σ _; rfl
        | cons u us ih =>
          intro σ hn
          show (L2.wipe (σ.set j x) us).set u none = ((L2.wipe σ us).set u none).set j x
          rw [ih σ (fun z => hn (List.mem_cons_of_mem _ z)), List.set_comm _ _ (fun z => hn (by rw [z]; exact List.mem_cons_self))]
      rw [c vs σ hj, List.set_set]
end

/-! ### targets -/
inductive TgD where
  | name (j : Nat) | names (js : List Nat)
def TgD.slots : TgD → List Nat
  | .name j => [j]
  | .names js => js
def setAll : List Nat → List D → Rho → Rho
  | j :: js, d :: ds, ρ => setAll js ds (ρ.set j (.sh d))
  | _, _, ρ => ρ
def setN (t : TgD) (d : D) (ρ : Rho) : Option Rho := match t, d with
  | .name j, d => some (ρ.set j (.sh d))
  | .names js, .tup ds => if ds.length = js.length then some (setAll js ds ρ) else none
  | _, _ => none
def gNames : List Nat → TGs
  | [] => gNil
  | j :: js => gCons (gName j) (gNames js)
def gOf (K : PySem.W.Frag) : TgD → TG
  | .name j => gName j
  | .names js => gTup K js.length (gNames js)
section
variable {K : PySem.W.Frag} {E : Ent} {S H : Hp}
theorem gNames_ok : ∀ {js : List Nat} {ds : List D} {vs : List V} {ρ : Rho} {σ : L2.St}, js.length = ds.length → Reps K E.hd S ds vs → EnvOk K E S H ρ σ → ∃ σ', (∀ Q : L2.St → Hp → Prop, Q σ' H → gNames js vs σ H Q) ∧ EnvOk K E S H (setAll js ds ρ) σ' ∧ ∀ ws, (∀ j ∈ js, j ∈ ws) → L2.wipe σ' ws = L2.wipe σ ws
  | [], [], vs, ρ, σ, _, r, g => by
    cases (show vs = [] from r)
    exact ⟨σ, fun Q q => ⟨rfl, q⟩, g, fun _ _ => rfl⟩
  | [], _ :: _, _, _, _, h, _, _ => by cases h
  | _ :: _, [], _, _, _, h, _, _ => by cases h
  | j :: js, d :: ds, vs, ρ, σ, h, r, g => by
    obtain ⟨v, ws, rfl, r1, r2⟩ := r
    obtain ⟨σ', h1, h2, h3⟩ := gNames_ok (js := js) (ds := ds) (by simpa using h) r2 (g.set j r1)
    refine ⟨σ', fun Q q => ⟨v, ws, rfl, h1 Q q⟩, h2, fun us hu => ?_⟩
    rw [h3 us fun k hk => hu k (List.mem_cons_of_mem _ hk)]
    exact wipe_set (hu j List.mem_cons_self)
theorem gOf_ok {t : TgD} {d : D} {v : V} {ρ ρ' : Rho} {σ : L2.St} (h : setN t d ρ = some ρ') (r : Rep K E.hd S d v) (g : EnvOk K E S H ρ σ) : ∃ σ', (∀ Q : L2.St → Hp → Prop, Q σ' H → gOf K t v σ H Q) ∧ EnvOk K E S H ρ' σ' ∧ ∀ ws, (∀ j ∈ t.slots, j ∈ ws) → L2.wipe σ' ws = L2.wipe σ ws := by
  unfold setN at h
  split at h
  · cases h
    exact ⟨_, fun Q q => q, g.set _ r, fun ws hw => wipe_set (hw _ (by simp [TgD.slots]))⟩
  · split at h
    · rename_i hl
      cases h
      obtain ⟨p, xs, rfl, e1, r1⟩ := r
      obtain ⟨σ', h1, h2, h3⟩ := gNames_ok hl.symm r1 g
      exact ⟨σ', fun Q q => ⟨p, xs, rfl, Same.sqT g.w.sh e1, by rw [← Reps.length r1, hl], h1 Q q⟩, h2, h3⟩
    · cases h
  · cases h
end
/-- a target by its slots -/
structure Tgt (F : Fam) (tg : Expr) (t : TgD) : Prop where
  ok : ∀ i, PG (F.cx i) tg (gOf (F.cx i).K t)
section
variable {F : Fam}
theorem Tgt.name (j : Nat) {x : Str} {pos : Pos} (hN : ∀ i, (F.cx i).N.Nodup) (hi : ∀ i, (F.cx i).N[j]? = some x := by intro _; rfl) (hx : ∀ i, Loc (F.cx i).env.scope x := by intro _; first | exact Or.inl rfl | exact Or.inr rfl)
    (hf : ∀ i, (F.cx i).fn x = true ∨ (F.cx i).env.scope.names.lookup x = some .local := by intro _; first | exact Or.inl rfl | exact Or.inr rfl) : Tgt F (.Name x pos) (.name j) := ⟨fun i => pg_name (hN i) (hi i) (hx i) (hf i)⟩
theorem Tgt.two (j j' : Nat) {x y : Str} {p p' pos : Pos} {k} (hN : ∀ i, (F.cx i).N.Nodup) (hi : ∀ i, (F.cx i).N[j]? = some x := by intro _; rfl) (hx : ∀ i, Loc (F.cx i).env.scope x := by intro _; first | exact Or.inl rfl | exact Or.inr rfl)
    (hf : ∀ i, (F.cx i).fn x = true ∨ (F.cx i).env.scope.names.lookup x = some .local := by intro _; first | exact Or.inl rfl | exact Or.inr rfl)
    (hi' : ∀ i, (F.cx i).N[j']? = some y := by intro _; rfl) (hx' : ∀ i, Loc (F.cx i).env.scope y := by intro _; first | exact Or.inl rfl | exact Or.inr rfl)
    (hf' : ∀ i, (F.cx i).fn y = true ∨ (F.cx i).env.scope.names.lookup y = some .local := by intro _; first | exact Or.inl rfl | exact Or.inr rfl)
    (hn : ∀ i, (assignEach [.Name x p, .Name y p'] (F.cx i).env).length = 2 := by intro _; rfl) (hst : ∀ i, (assignEach [.Name x p, .Name y p'] (F.cx i).env).findIdx? (·.1) = none := by intro _; rfl)
    (hs : ∀ i, (assignEach [.Name x p, .Name y p'] (F.cx i).env).map (·.2) = assign (.Name x p) (F.cx i).env :: (assignEach [.Name y p'] (F.cx i).env).map (·.2) := by intro _; rfl)
    (hs' : ∀ i, (assignEach [.Name y p'] (F.cx i).env).map (·.2) = assign (.Name y p') (F.cx i).env :: (assignEach [] (F.cx i).env).map (·.2) := by intro _; rfl) : Tgt F (.Tuple [.Name x p, .Name y p'] k pos) (.names [j, j']) :=
  ⟨fun i => pg_tup (n := 2) (F.calm i) (pgs_cons (pg_name (hN i) (hi i) (hx i) (hf i)) (pgs_cons (pg_name (hN i) (hi' i) (hx' i) (hf' i)) pgs_nil (hs' i)) (hs i)) (hn i) (hst i)⟩
end

/-! ### what is walked -/
def WalkD (K : PySem.W.Frag) (E : Ent) (J : It) (ds : List D) (S : Hp) : Prop := ∀ S2 H2, Wld K E S2 H2 → Same S S2 →
  (∀ (i : Nat) (d : D), ds[i]? = some d → J.go i H2 ∧ ∀ x H3, J.yld i H2 x H3 → ∃ S3, Go K E S2 H2 S3 H3 ∧ Rep K E.hd S3 d x) ∧ J.stop ds.length H2
def tGI (K : PySem.W.Frag) (ρ : Rho) (Q : List D → Prop) : TI := fun σ H R => ∃ E S, EnvOk K E S H ρ σ ∧ ∀ ds J S' H', Q ds → Go K E S H S' H' → WalkD K E J ds S' → R J H'
def Di1 (X : Cx) (ρ : Rho) (tg iter : Expr) (Q : List D → Prop) : Prop := PI X tg iter (tGI X.K ρ Q)
def Di (F : Fam) (ρ : Rho) (tg iter : Expr) (Q : List D → Prop) : Prop := ∀ i, Di1 (F.cx i) ρ tg iter Q
def tAllI (X : Cx) (tg iter : Expr) : TI := fun σ H R => ∃ ρ Q, Di1 X ρ tg iter Q ∧ tGI X.K ρ Q σ H R
theorem PI.imp {X : Cx} {tg iter : Expr} {t t' : TI} (h : PI X tg iter t) (i : ∀ σ H R, t' σ H R → t σ H R) : PI X tg iter t' := ⟨fun pins s σ H Q I g => h.run pins s σ H Q I (i _ _ _ g)⟩
theorem pi_all {X : Cx} {tg iter : Expr} : PI X tg iter (tAllI X tg iter) := ⟨fun pins s σ H Q I ⟨ρ, Q', d, g⟩ => d.run pins s σ H Q I g⟩
theorem Di1.of {X : Cx} {ρ : Rho} {tg iter : Expr} {t : TI} {Q : List D → Prop} (h : PI X tg iter t)
    (i : ∀ E S H σ R, EnvOk X.K E S H ρ σ → (∀ ds J S' H', Q ds → Go X.K E S H S' H' → WalkD X.K E J ds S' → R J H') → t σ H R) : Di1 X ρ tg iter Q :=
  PI.imp h fun σ H R ⟨E, S, g, k⟩ => i E S H σ R g k
/-- a list or a tuple, by its value -/
def iSeq (K : PySem.W.Frag) (tl : TE) : TI := fun σ H R => tl σ H fun x H1 => ∃ a, x = .ref a ∧ (((∃ xs, SqL K H1 a xs) ∧ R (Itl K a) H1) ∨ ((∃ xs, SqT K H1 a xs) ∧ R (Itt K a) H1))
theorem pi_seq {X : Cx} {tg l : Expr} {tl : TE} (hl : PE X l tl) : PI X tg l (iSeq X.K tl) := by
  refine ⟨fun pins s σ H R I h => ?_⟩
  refine thn (hl.run pins s σ H _ I h) fun v s1 ⟨x, H1, I1, r1, q1⟩ => ?_
  obtain ⟨a, e, q1⟩ := q1
  subst e
  cases r1
  rcases q1 with ⟨⟨xs, hq⟩, q⟩ | ⟨⟨xs, hq⟩, q⟩
  · obtain ⟨its, rv, p, hz⟩ := I1.list hq
    refine wpAny_pyIter_list p.isList ?_
    refine ⟨s1.heap.objs.size, [s1.heap.objs.size], _, _, H1, rfl, I1.kept (t' := s1.toks) fun b o e => Heap.get?_push_of_some _ e, turn_list a _, ⟨_, Heap.get?_push_size _ rfl, rfl, rfl⟩, fun b hb => ?_, q⟩
    have e : b = s1.heap.objs.size := by simpa using hb
    subst e
    exact I1.fpOk (Nat.le_refl _) (I1.hok.fresh (Nat.le_refl _))
  · obtain ⟨its, rv, p, hz⟩ := I1.tuple hq
    refine wpAny_pyIter_tuple (show s1.heap.IsTuple a its.toArray from p) ?_
    refine ⟨s1.heap.objs.size, [s1.heap.objs.size], _, _, H1, rfl, I1.kept (t' := s1.toks) fun b o e => Heap.get?_push_of_some _ e, turn_tuple a _, ⟨_, Heap.get?_push_size _ rfl, rfl, rfl⟩, fun b hb => ?_, q⟩
    have e : b = s1.heap.objs.size := by simpa using hb
    subst e
    exact I1.fpOk (Nat.le_refl _) (I1.hok.fresh (Nat.le_refl _))
def dItems (x : D) (Q : List D → Prop) : Prop := match x with
  | .lst l => Q l
  | .tup l => Q l
  | _ => False
section
variable {F : Fam} {ρ : Rho} {tg e e2 : Expr} {Q : List D → Prop}
theorem Di.seq (h : De F ρ e fun x => dItems x Q) : Di F ρ tg e Q := fun i =>
  Di1.of (pi_seq pe_all) fun E S H σ R g k => h.all g fun x v S1 H1 qx g1 rx => by
    unfold dItems at qx
    split at qx
    · obtain ⟨p, xs, rfl, e1, r1⟩ := rx
      refine ⟨p, rfl, .inl ⟨⟨xs, .of (g1.w.sh _ _ e1)⟩, k _ _ S1 H1 qx g1 fun S2 H2 w2 s2 => ⟨fun i d hd => ?_, xs, .of (w2.sh _ _ (s2 _ _ e1)), by rw [Reps.length r1]; exact Nat.le_refl _⟩⟩⟩
      obtain ⟨v, a1, a2⟩ := Reps.get r1 hd
      refine ⟨⟨xs, v, .of (w2.sh _ _ (s2 _ _ e1)), a1⟩, fun x H3 hy => ?_⟩
      obtain ⟨rfl, hy⟩ := hy
      have ex : x = v := Option.some.inj ((hy xs (.of (w2.sh _ _ (s2 _ _ e1)))).symm.trans a1)
      subst ex
      exact ⟨S2, Go.refl w2, a2.mono s2⟩
    · obtain ⟨p, xs, rfl, e1, r1⟩ := rx
      refine ⟨p, rfl, .inr ⟨⟨xs, Same.sqT g1.w.sh e1⟩, k _ _ S1 H1 qx g1 fun S2 H2 w2 s2 => ⟨fun i d hd => ?_, xs, Same.sqT (s2.trans w2.sh) e1, by rw [Reps.length r1]; exact Nat.le_refl _⟩⟩⟩
      obtain ⟨v, a1, a2⟩ := Reps.get r1 hd
      refine ⟨⟨xs, v, Same.sqT (s2.trans w2.sh) e1, a1⟩, fun x H3 hy => ?_⟩
      obtain ⟨rfl, hy⟩ := hy
      have ex : x = v := Option.some.inj ((hy xs (Same.sqT (s2.trans w2.sh) e1)).symm.trans a1)
      subst ex
      exact ⟨S2, Go.refl w2, a2.mono s2⟩
    · exact qx.elim
def rngD (lo : Int) (n : Nat) : List D := (List.range n).map fun (i : Nat) => D.int (lo + i)
theorem rngD_get {lo : Int} {n i : Nat} {d : D} (h : (rngD lo n)[i]? = some d) : i < n ∧ d = .int (lo + i) := by
  unfold rngD at h
  rw [List.getElem?_map] at h
  by_cases hi : i < n
  · rw [List.getElem?_range hi] at h
    cases h
    exact ⟨hi, rfl⟩
  · rw [List.getElem?_eq_none (by rw [List.length_range]; omega)] at h
    cases h
theorem walk_rng {K : PySem.W.Frag} {E : Ent} {S : Hp} (lo : Int) (n : Nat) : WalkD K E (Itr lo n) (rngD lo n) S := fun S2 H2 w2 s2 => by
  refine ⟨fun i d hd => ?_, ?_⟩
  · obtain ⟨hi, rfl⟩ := rngD_get hd
    refine ⟨hi, fun x H3 hy => ?_⟩
    obtain ⟨rfl, rfl⟩ := hy
    exact ⟨S2, Go.refl w2, rfl⟩
  · show n ≤ (rngD lo n).length
    unfold rngD
    rw [List.length_map, List.length_range]
    exact Nat.le_refl _
def dRange (ds : List D) (Q : List D → Prop) : Prop := match ds with
  | [.int n] => -(2 ^ 62) ≤ n ∧ n < 2 ^ 62 ∧ Q (rngD 0 n.toNat)
  | _ => False
theorem Di.range1 {p pos : Pos} (hm : ∀ i, (F.cx i).mg "range" = none) (h : Da F ρ [e] fun ds => dRange ds Q) (hg : ∀ i, Gl (F.cx i) "range" := by intro _; rfl) (hs : ∀ i, starEach [e] (F.cx i).env = [(false, eval e (F.cx i).env)] := by intro _; rfl) : Di F ρ tg (.Call (.Name "range" p) [e] [] pos) Q := fun i =>
  Di1.of (pi_range1 (hg i) (hm i) pa_all (hs i)) fun E S H σ R g k => h.all g fun ds vs S1 H1 q g1 r => by
    unfold dRange at q
    split at q
    · obtain ⟨v, rfl, r1⟩ := Reps.one r
      cases (show v = _ from r1)
      exact ⟨_, rfl, q.1, q.2.1, k _ _ S1 H1 q.2.2 g1 (walk_rng _ _)⟩
    · exact q.elim
def dRange2 (ds : List D) (Q : List D → Prop) : Prop := match ds with
  | [.int m, .int n] => (-(2 ^ 62) ≤ m ∧ m < 2 ^ 62 ∧ -(2 ^ 62) ≤ n ∧ n < 2 ^ 62) ∧ Q (rngD m (n - m).toNat)
  | _ => False
theorem Di.range2 {p pos : Pos} (hm : ∀ i, (F.cx i).mg "range" = none) (h : Da F ρ [e, e2] fun ds => dRange2 ds Q) (hg : ∀ i, Gl (F.cx i) "range" := by intro _; rfl) (hs : ∀ i, starEach [e, e2] (F.cx i).env = [(false, eval e (F.cx i).env), (false, eval e2 (F.cx i).env)] := by intro _; rfl) (hs2 : ∀ i, starEach [e2] (F.cx i).env = [(false, eval e2 (F.cx i).env)] := by intro _; rfl) : Di F ρ tg (.Call (.Name "range" p) [e, e2] [] pos) Q := fun i =>
  Di1.of (pi_range2 (hg i) (hm i) pa_all (hs i) (hs2 i)) fun E S H σ R g k => h.all g fun ds vs S1 H1 q g1 r => by
    unfold dRange2 at q
    split at q
    · obtain ⟨v, v', rfl, r1, r2⟩ := Reps.two r
      cases (show v = _ from r1)
      cases (show v' = _ from r2)
      exact ⟨_, _, rfl, q.1, k _ _ S1 H1 q.2 g1 (walk_rng _ _)⟩
    · exact q.elim
end

/-! ### comprehensions -/
def Fam.blk (F : Fam) (scope : Scope) : Fam where
  ι := F.ι × Shared × Hp × Addr × List (Str × Addr) × List Addr
  cx := fun z => (F.cx z.1).blk z.2.1 z.2.2.1 scope (compEnvC scope z.2.2.2.2.1 z.2.2.2.1 (F.cx z.1).env) z.2.2.2.2.2
  k := F.k
  room := fun z => F.room z.1
  calm := fun z => F.calm z.1
/-- one after another: the list of what the element gives where the test lets it -/
def lcD (t : TgD) (ρw : Rho) (tst : Rho → (Bool → Prop) → Prop) (el : Rho → DQ → Prop) : List D → (List D → Prop) → Prop
  | [], Q => Q []
  | d :: ds, Q => ∃ ρ', setN t d ρw = some ρ' ∧ tst ρ' fun b => (b = true → el ρ' fun y => lcD t ρw tst el ds fun ys => Q (y :: ys)) ∧ (b = false → lcD t ρw tst el ds Q)
/-- the tests of a comprehension -/
inductive Ifs where
  | no | one (c : Expr)
def Ifs.list : Ifs → List Expr
  | .no => []
  | .one c => [c]
def Ifs.D (F : Fam) : Ifs → Rho → (Bool → Prop) → Prop
  | .no, _, Q => Q true
  | .one c, ρ, Q => Dt F ρ c Q
def tAllFT (F : Fam) (K : PySem.W.Frag) (c : Ifs) : TT := fun σ H R => ∃ ρ Q, c.D F ρ Q ∧ tGT K ρ Q σ H R
def tAllFE (F : Fam) (K : PySem.W.Frag) (e : Expr) : TE := fun σ H R => ∃ ρ Q, De F ρ e Q ∧ tG K ρ Q σ H R
section
variable {F : Fam} {ρ : Rho} {tg iter elt : Expr} {scope : Scope} {c : Ifs} {t : TgD} {own : List (Str × Nat)}
theorem lc_read {Q : List D → Prop} (h : Di F ρ tg iter fun ds => ds.length ≤ sizeLine ∧ lcD t (wipeR ρ (own.map (·.2))) (c.D (F.blk scope)) (fun ρ' Q => De (F.blk scope) ρ' elt Q) ds Q) (ht : ∀ j ∈ t.slots, j ∈ own.map (·.2)) (i : F.ι) {E : Ent} {S H : Hp} {σ : L2.St} {R : VK}
    (g : EnvOk (F.cx i).K E S H ρ σ) (k : ∀ ys xs p S' H', Q ys → Go (F.cx i).K E S H S' H' → H p = none → S' p = none → H' p = some (.lst xs) → Reps (F.cx i).K E.hd S' ys xs → R (.ref p) H') :
    tLc (tAllI (F.cx i) tg iter) (gOf (F.cx i).K t) (tAllFT (F.blk scope) (F.cx i).K c) (tAllFE (F.blk scope) (F.cx i).K elt) (own.map (·.2)) σ H R := by
  refine ⟨ρ, _, h i, E, S, g, fun ds J S1 H1 hq g1 wd => ?_⟩
  obtain ⟨hz, hq⟩ := hq
  intro L hL
  have nhL : E.hd ≠ some L := g1.w.nhd hL
  have f0L : E.H0 L = none := g1.w.f0 hL
  have sL : S1 L = none := g1.w.sh.free hL
  have hLH : H L = none := by
    cases q : H L with
    | none => rfl
    | some u =>
      rw [g1.h L u q nhL] at hL
      cases hL
  have gf := g1.w.fresh (o := .lst []) hL
  refine ⟨fun n m H' => ∃ S' ys xs, m = ds.length - n ∧ n ≤ ds.length ∧ Go (F.cx i).K E S1 H1 S' H' ∧ S' L = none ∧ H' L = some (.lst xs) ∧ Reps (F.cx i).K E.hd S' ys xs ∧ ys.length ≤ n ∧
    lcD t (wipeR ρ (own.map (·.2))) (c.D (F.blk scope)) (fun ρ' Q => De (F.blk scope) ρ' elt Q) (ds.drop n) (fun zs => Q (ys ++ zs)),
    ⟨ds.length, S1, [], [], by simp, Nat.zero_le _, gf, sL, upd_same, Reps.nil, Nat.le_refl _, hq⟩, ?_⟩
  rintro n m H' ⟨S', ys, xs, rfl, hn, g2, sL2, eL, rr, hy, hq⟩
  have wk := wd S' H' g2.w g2.s
  by_cases hlt : n < ds.length
  · obtain ⟨d, hd⟩ : ∃ d, ds[n]? = some d := ⟨ds[n], List.getElem?_eq_getElem hlt⟩
    obtain ⟨hgo, hyl⟩ := wk.1 n d hd
    have ed : ds.drop n = d :: ds.drop (n + 1) := by
      rw [List.drop_eq_getElem_cons hlt]
      congr 1
      exact Option.some.inj ((List.getElem?_eq_getElem hlt).symm.trans hd)
    rw [ed] at hq
    obtain ⟨ρ', hs, hq⟩ := hq
    refine .inr ⟨hgo, fun H2 => ∃ S2 ys xs, Go (F.cx i).K E S1 H1 S2 H2 ∧ S2 L = none ∧ H2 L = some (.lst xs) ∧ Reps (F.cx i).K E.hd S2 ys xs ∧ ys.length ≤ n + 1 ∧
      lcD t (wipeR ρ (own.map (·.2))) (c.D (F.blk scope)) (fun ρ' Q => De (F.blk scope) ρ' elt Q) (ds.drop (n + 1)) (fun zs => Q (ys ++ zs)), fun H2 ⟨S2, ys, xs, a, b, c', d', e', f'⟩ => ⟨ds.length - (n + 1), by omega, S2, ys, xs, rfl, hlt, a, b, c', d', e', f'⟩, fun x H3 hx => ?_⟩
    obtain ⟨S3, g3, r3⟩ := hyl x H3 hx
    have g13 := g2.trans g3
    have keepL : ∀ {Sa Ha Sb Hb : Hp} {xs : List V}, Go (F.cx i).K E Sa Ha Sb Hb → Sa L = none → Ha L = some (.lst xs) → Sb L = none ∧ Hb L = some (.lst xs) := fun {Sa Ha Sb Hb xs} gg s1 h1 => by
      refine ⟨?_, gg.h L _ h1 nhL⟩
      cases q : Sb L with
      | none => rfl
      | some u =>
        rw [gg.nw L u q s1] at h1
        cases h1
    obtain ⟨sL3, eL3⟩ := keepL g3 sL2 eL
    have gw : EnvOk (F.cx i).K E S3 H3 (wipeR ρ (own.map (·.2))) (L2.wipe σ (own.map (·.2))) := ((g.go g1).go g13).wipe _
    obtain ⟨σ2, hg, g4, hwp⟩ := gOf_ok hs r3 gw
    refine hg _ ⟨?_, ρ', _, hq, E, S3, g4, fun b S5 H5 qb g5 => ?_⟩
    · rw [hwp _ ht]
      have ww : ∀ (vs : List Nat) (σ : L2.St), (∀ v ∈ vs, True) → L2.wipe (L2.wipe σ vs) vs = L2.wipe σ vs := by
        intro vs
        induction vs with
        | nil => intro σ _; rfl
        | cons u us ih =>
          intro σ _
          show (L2.wipe ((L2.wipe σ us).set u none) us).set u none = (L2.wipe σ us).set u none
          by_cases hu : u ∈ us
          · rw [wipe_set hu, ih σ fun _ _ => trivial]
          · have cc : ∀ (us : List Nat) (σ : L2.St), u ∉ us → L2.wipe (σ.set u none) us = (L2.wipe σ us).set u none := by
              intro us
              induction us with
              | nil => intro σ _; rfl
              | cons w ws ihw =>
                intro σ hn
                show (L2.wipe (σ.set u none) ws).set w none = ((L2.wipe σ ws).set w none).set u none
                rw [ihw σ (fun z => hn (List.mem_cons_of_mem _ z)), List.set_comm _ _ (fun z => hn (by rw [z]; exact List.mem_cons_self))]
            rw [cc us _ hu, ih σ fun _ _ => trivial, List.set_set]
      exact ww _ _ fun _ _ => trivial
    · obtain ⟨sL5, eL5⟩ := keepL g5 sL3 eL3
      cases b with
      | true =>
        refine ⟨ρ', _, qb.1 rfl, E, S5, g4.go g5, fun y v S6 H6 qy g6 r6 => ?_⟩
        obtain ⟨sL6, eL6⟩ := keepL g6 sL5 eL5
        have lx := Reps.length rr
        refine ⟨xs, eL6, by omega, S6, ys ++ [y], xs ++ [v], ?_, sL6, upd_same, Reps.app (Reps.mono ((g3.trans g5).trans g6).s rr) (Reps.cons r6 Reps.nil), by rw [List.length_append, List.length_singleton]; omega, ?_⟩
        · have gg := (g13.trans g5).trans g6
          refine ⟨gg.s, fun b o q nb => ?_, gg.nw, gg.w.write nhL f0L sL6 _⟩
          have nbL : b ≠ L := ne_of_none q hL
          rw [upd_ne nbL]
          exact gg.h b o q nb
        · have e : (fun zs => Q (ys ++ [y] ++ zs)) = fun zs => Q (ys ++ (y :: zs)) := by
            funext zs
            rw [List.append_assoc]
            rfl
          rw [e]
          exact qy
      | false =>
        show ∃ _, _
        exact ⟨S5, ys, xs, g13.trans g5, sL5, eL5, Reps.mono (g3.trans g5).s rr, by omega, qb.2 rfl⟩
  · have en : n = ds.length := by omega
    subst en
    rw [List.drop_length] at hq
    have hq : Q (ys ++ []) := hq
    rw [List.append_nil] at hq
    exact .inl ⟨wk.2, k ys xs L S' H' hq (g1.trans g2) hLH sL2 eL rr⟩
theorem pts_all {i : F.ι} : ∀ (s : Shared) (H : Hp) (C : Addr) (cl : List (Str × Addr)) (fp : List Addr), PTs ((F.cx i).blk s H scope (compEnvC scope cl C (F.cx i).env) fp) c.list (tAllFT (F.blk scope) (F.cx i).K c) := fun s H C cl fp => by
  cases c with
  | no =>
    refine ⟨fun pins s' σ H' Q I ⟨ρ, Q', d, E, S, g, k⟩ => ?_⟩
    exact pts_nil.run pins s' σ H' Q I (k true S H' d (Go.refl g.w))
  | one e =>
    refine ⟨fun pins s' σ H' Q I ⟨ρ, Q', d, g⟩ => ?_⟩
    exact (pts_one (d (i, s, H, C, cl, fp))).run pins s' σ H' Q I g
theorem pe_allF {i : F.ι} : ∀ (s : Shared) (H : Hp) (C : Addr) (cl : List (Str × Addr)) (fp : List Addr), PE ((F.cx i).blk s H scope (compEnvC scope cl C (F.cx i).env) fp) elt (tAllFE (F.blk scope) (F.cx i).K elt) := fun s H C cl fp =>
  ⟨fun pins s' σ H' Q I ⟨ρ, Q', d, g⟩ => (d (i, s, H, C, cl, fp)).run pins s' σ H' Q I g⟩
theorem pg_allF {i : F.ι} (tt : Tgt (F.blk scope) tg t) : ∀ (s : Shared) (H : Hp) (C : Addr) (cl : List (Str × Addr)) (fp : List Addr), PG ((F.cx i).blk s H scope (compEnvC scope cl C (F.cx i).env) fp) tg (gOf (F.cx i).K t) := fun s H C cl fp => tt.ok (i, s, H, C, cl, fp)
/-- a comprehension as a value -/
theorem De.lc {Q : DQ} {pos : Pos} (own : List (Str × Nat)) (c : Ifs) (tt : Tgt (F.blk scope) tg t) (ok : ∀ i, BlkOk (F.cx i).N (F.cx i).env.scope scope own) (hN : ∀ i, (F.cx i).N.Nodup)
    (h : Di F ρ tg iter fun ds => ds.length ≤ sizeLine ∧ lcD t (wipeR ρ (own.map (·.2))) (c.D (F.blk scope)) (fun ρ' Q => De (F.blk scope) ρ' elt Q) ds fun ys => Q (.lst ys)) (ht : ∀ j ∈ t.slots, j ∈ own.map (·.2) := by decide)
    (hs : ∀ i x, foldedSetIterable iter (F.cx i).env x = pure x := by intro _ _; rfl) : De F ρ (.ListComp elt [⟨tg, iter, c.list, 0⟩] scope pos) Q := fun i =>
  De1.of (pe_lc (F.calm i) (hN i) pi_all (ok i) (pg_allF tt) pts_all pe_allF (hs i)) fun E S H σ R g k => lc_read h ht i g fun ys xs p S' H' q g' hp sp e r =>
    k (.lst ys) (.ref p) _ H' q (g'.share hp (g.w.nhd hp) (g.w.f0 hp) sp e) ⟨p, xs, rfl, upd_same, Reps.mono (fun b o q => by rw [upd_ne (ne_of_none q sp)]; exact q) r⟩
end

/-! ### for -/
def forD (F : Fam) (body : List Stmt) (t : TgD) (k : Ek) : List D → Rho → Prop
  | [], ρ => k.nx ρ
  | d :: ds, ρ => ∃ ρ', setN t d ρ = some ρ' ∧ Db F ρ' body { nx := forD F body t k ds, rt := k.rt, bk := k.nx, ct := forD F body t k ds }
theorem Ds.for_ {F : Fam} {ρ : Rho} {tg iter : Expr} {body : List Stmt} {t : TgD} {k : Ek} {pos : Pos} (tt : Tgt F tg t) (h : Di F ρ tg iter fun ds => forD F body t k ds ρ)
    (hp : ∀ i, PassesOwn (model (F.cx i).prog (F.cx i).w) (F.cx i).A (F.cx i).env (F.cx i).xe := by intro _; exact PassesOwn.never) (hs : ∀ i x, foldedSetIterable iter (F.cx i).env x = pure x := by intro _ _; rfl) : Ds F ρ (.For tg iter body [] pos) k := fun i => by
  refine Ds1.of (ps_for (hp i) (F.calm i) pi_all (tt.ok i) pss_all (hs i)) fun E S H σ D' g q => ?_
  refine ⟨ρ, _, h i, E, S, g, fun ds J S1 H1 hq g1 wd => ?_⟩
  refine ⟨fun n m σ' H' => ∃ S' ρ', m = ds.length - n ∧ n ≤ ds.length ∧ EnvOk (F.cx i).K E S' H' ρ' σ' ∧ Same S1 S' ∧ forD F body t k (ds.drop n) ρ', ⟨ds.length, S1, ρ, by simp, Nat.zero_le _, g.go g1, Same.refl _, hq⟩, ?_⟩
  rintro n m σ' H' ⟨S', ρ', rfl, hn, g2, s2, hq⟩
  have wk := wd S' H' g2.w s2
  by_cases hlt : n < ds.length
  · obtain ⟨d, hd⟩ : ∃ d, ds[n]? = some d := ⟨ds[n], List.getElem?_eq_getElem hlt⟩
    obtain ⟨hgo, hyl⟩ := wk.1 n d hd
    have ed : ds.drop n = d :: ds.drop (n + 1) := by
      rw [List.drop_eq_getElem_cons hlt]
      congr 1
      exact Option.some.inj ((List.getElem?_eq_getElem hlt).symm.trans hd)
    rw [ed] at hq
    obtain ⟨ρ2, hset, hq⟩ := hq
    refine .inr ⟨hgo, fun σ2 H2 => ∃ S2 ρ2, EnvOk (F.cx i).K E S2 H2 ρ2 σ2 ∧ Same S1 S2 ∧ forD F body t k (ds.drop (n + 1)) ρ2, fun σ2 H2 ⟨S2, ρ2, a, b, c⟩ => ⟨ds.length - (n + 1), by omega, S2, ρ2, rfl, hlt, a, b, c⟩, fun x H3 hx => ?_⟩
    obtain ⟨S3, g3, r3⟩ := hyl x H3 hx
    obtain ⟨σ3, hg, g4, _⟩ := gOf_ok hset r3 (g2.go g3)
    refine hg _ (Db.all hq g4 ⟨?_, ?_, fun _ _ _ _ _ _ z => z.elim, ?_, ?_⟩)
    · intro ρ4 S4 H4 σ4 a b c
      exact ⟨S4, ρ4, c, (s2.trans g3.s).trans b, a⟩
    · intro d4 v4 S4 H4 a b c
      exact q.rt d4 v4 S4 H4 a b c
    · intro ρ4 S4 H4 σ4 a b c
      exact q.nx ρ4 S4 H4 σ4 a (((g1.s.trans s2).trans g3.s).trans b) c
    · intro ρ4 S4 H4 σ4 a b c
      exact ⟨S4, ρ4, c, (s2.trans g3.s).trans b, a⟩
  · have en : n = ds.length := by omega
    subst en
    rw [List.drop_length] at hq
    exact .inl ⟨wk.2, q.nx ρ' S' H' σ' hq (g1.s.trans s2) g2⟩
/-- while, by a word and a measure -/
theorem Ds.while_ {F : Fam} {ρ : Rho} {c : Expr} {body : List Stmt} {k : Ek} {pos : Pos} (W : Nat → Rho → Prop) (h0 : ∃ m, W m ρ)
    (hs : ∀ m ρ, W m ρ → Dt F ρ c fun b => (b = true → Db F ρ body { nx := fun ρ' => ∃ m', m' < m ∧ W m' ρ', rt := k.rt, bk := k.nx, ct := fun ρ' => ∃ m', m' < m ∧ W m' ρ' }) ∧ (b = false → k.nx ρ))
    (hp : ∀ i, PassesOwn (model (F.cx i).prog (F.cx i).w) (F.cx i).A (F.cx i).env (F.cx i).xe := by intro _; exact PassesOwn.never) : Ds F ρ (.While c body [] pos) k := fun i => by
  refine Ds1.of (ps_while (hp i) pt_all pss_all) fun E S H σ D' g q => ?_
  obtain ⟨m0, w0⟩ := h0
  refine ⟨fun m σ' H' => ∃ S' ρ', EnvOk (F.cx i).K E S' H' ρ' σ' ∧ Same S S' ∧ W m ρ', ⟨m0, S, ρ, g, Same.refl _, w0⟩, ?_⟩
  rintro m σ' H' ⟨S', ρ', g2, s2, w2⟩
  refine (hs m ρ' w2).all g2 fun b S3 H3 qb g3 => ?_
  cases b with
  | true =>
    refine ⟨fun σ4 H4 => ∃ m', m' < m ∧ ∃ S' ρ', EnvOk (F.cx i).K E S' H4 ρ' σ4 ∧ Same S S' ∧ W m' ρ', fun σ4 H4 h => h, ?_⟩
    refine Db.all (qb.1 rfl) (g2.go g3) ⟨?_, ?_, fun _ _ _ _ _ _ z => z.elim, ?_, ?_⟩
    · intro ρ4 S4 H4 σ4 a b c
      obtain ⟨m', hm, w4⟩ := a
      exact ⟨m', hm, S4, ρ4, c, (s2.trans g3.s).trans b, w4⟩
    · intro d4 v4 S4 H4 a b c
      exact q.rt d4 v4 S4 H4 a b c
    · intro ρ4 S4 H4 σ4 a b c
      exact q.nx ρ4 S4 H4 σ4 a ((s2.trans g3.s).trans b) c
    · intro ρ4 S4 H4 σ4 a b c
      obtain ⟨m', hm, w4⟩ := a
      exact ⟨m', hm, S4, ρ4, c, (s2.trans g3.s).trans b, w4⟩
  | false => exact q.nx ρ' S3 H3 σ' (qb.2 rfl) (s2.trans g3.s) (g2.go g3)
end DL
set_option Elab.async false
set_option linter.all false
set_option maxRecDepth 100000
/-! DL5: statements, own objects, isinstance, instances made, at data. -/
namespace DL
open PySem PySem.Spec PyProof.Rows L2

/-! ### sharing what is own -/
section
variable {K : PySem.W.Frag} {E : Ent} {S H S' H' : Hp} {p : Addr} {o o' : HO} {ρ : Rho} {σ : L2.St}
/-- what is own, as data -/
def Ob.d : Ob → D
  | .lst l => .lst l
  | .ins _ C ns ds => .ins C ns ds
  | .dic _ _ => .non
  | .hnd _ _ _ _ => .non
/-- what can be shared as data -/
def Ob.plain : Ob → Bool
  | .dic _ _ => false
  | .hnd _ _ _ _ => false
  | _ => true
theorem Wld.share (w : Wld K E S H) (nh : E.hd ≠ some p) (f0 : E.H0 p = none) (sp : S p = none) (e : H p = some o) : Wld K E (upd S p o) H := by
  have eS : Same S (upd S p o) := fun b u e => by rw [upd_ne (ne_of_none e sp)]; exact e
  refine ⟨fun b u q => ?_, w.s0.trans eS, w.hand.same eS (fun _ _ _ q => q), fun a q => ?_, w.fr, fun b u q n => ?_⟩
  · by_cases z : b = p
    · subst z
      rw [upd_same] at q
      rw [← q]
      exact e
    · rw [upd_ne z] at q
      exact w.sh b u q
  · rw [upd_ne (fun z => nh (by rw [← z]; exact q))]
    exact w.nh a q
  · by_cases z : b = p
    · rw [z]; exact f0
    · rw [upd_ne z] at q
      exact w.nw b u q n
theorem OwnAt.d {a : Addr} {ob : Ob} (h : OwnAt K E S H a ob) (pl : ob.plain = true) : ∃ u, H a = some u ∧ Rep K E.hd (upd S a u) ob.d (.ref a) := by
  have eS : ∀ u, Same S (upd S a u) := fun u b x e => by rw [upd_ne (ne_of_none e h.ns)]; exact e
  cases ob with
  | lst l =>
    obtain ⟨xs, e, r⟩ := h.own
    exact ⟨_, e, a, xs, rfl, upd_same, Reps.mono (eS _) r⟩
  | ins x C ns ds =>
    obtain ⟨_, dx, xs, e, l, r⟩ := h.own
    exact ⟨_, e, a, dx, xs, rfl, upd_same, l, Reps.mono (eS _) r⟩
  | dic w kvs => cases pl
  | hnd x c cells l => cases pl
/-- the own object in slot j is shared from here on -/
theorem EnvOk.freeze {j : Nat} {ob : Ob} (g : EnvOk K E S H ρ σ) (hj : ρ[j]? = some (Sl.ow ob)) (pl : ob.plain = true) : ∃ S', Same S S' ∧ EnvOk K E S' H (ρ.set j (.sh ob.d)) σ := by
  obtain ⟨a, hσ, oa⟩ := g.ow j ob hj
  obtain ⟨u, e, r⟩ := oa.d pl
  have eS : Same S (upd S a u) := fun b x e => by rw [upd_ne (ne_of_none e oa.ns)]; exact e
  have hl := (List.getElem?_eq_some_iff.mp hj).1
  refine ⟨upd S a u, eS, g.w.share oa.nh oa.f0 oa.ns e, by rw [List.length_set]; exact g.len, fun i d q => ?_, fun i o q => ?_, fun i i' o o' b q q' e1 e2 => ?_⟩
  · by_cases z : j = i
    · subst z
      rw [List.getElem?_set_self hl] at q
      cases q
      exact ⟨_, hσ, r⟩
    · rw [List.getElem?_set_ne z] at q
      obtain ⟨v, a1, a2⟩ := g.sh i d q
      exact ⟨v, a1, a2.mono eS⟩
  · by_cases z : j = i
    · subst z
      rw [List.getElem?_set_self hl] at q
      cases q
    · rw [List.getElem?_set_ne z] at q
      obtain ⟨b, hb, ob'⟩ := g.ow i o q
      have nb : b ≠ a := fun z2 => by
        subst z2
        exact z (g.dj j i _ _ b hj q hσ hb)
      exact ⟨b, hb, ob'.f0, by rw [upd_ne nb]; exact ob'.ns, ob'.nh, ob'.own.same eS fun u q => q⟩
  · have n1 : j ≠ i := fun z => by
      subst z
      rw [List.getElem?_set_self hl] at q
      cases q
    have n2 : j ≠ i' := fun z => by
      subst z
      rw [List.getElem?_set_self hl] at q'
      cases q'
    rw [List.getElem?_set_ne n1] at q
    rw [List.getElem?_set_ne n2] at q'
    exact g.dj i i' o o' b q q' e1 e2
end
section
variable {F : Fam} {ρ : Rho} {e : Expr} {Q : DQ}
/-- an expression whose value is flat may read what is own -/
theorem De.borrow (j : Nat) {ob : Ob} (hj : ρ[j]? = some (Sl.ow ob)) (h : De F (ρ.set j (.sh ob.d)) e fun d => d.flat = true ∧ Q d) (pl : ob.plain = true := by rfl) : De F ρ e Q := fun i =>
  PE.imp (h i) fun σ H R ⟨E, S, g, k⟩ => by
    obtain ⟨S', s, g'⟩ := g.freeze hj pl
    refine ⟨E, S', g', fun d v S2 H2 q g2 r => k d v S H2 q.2 ?_ (Rep.flat q.1 r)⟩
    have sh : Same S H2 := s.trans (g2.s.trans g2.w.sh)
    refine ⟨Same.refl _, g2.h, fun b o e n => (by rw [n] at e; cases e), sh, g.w.s0, fun a ha => ?_, g.w.nh, g2.w.fr, g.w.nw⟩
    obtain ⟨cells, i', l, m, n, q1, q2, q3⟩ := g2.w.hand a ha
    obtain ⟨cells0, i0, l0, m0, n0, p1, p2, p3⟩ := g.w.hand a ha
    have e0 := (s.trans g2.s) _ _ p2
    rw [q2] at e0
    refine ⟨cells, i', l, m, n, q1, ?_, q3⟩
    rw [p2, ← e0]
end

/-! ### own slots: written, made -/
section
variable {K : PySem.W.Frag} {E : Ent} {S H S' H' : Hp} {p : Addr} {o o' : HO} {ρ : Rho} {σ : L2.St}
theorem EnvOk.put {j : Nat} {ob ob' : Ob} {a : Addr} (g : EnvOk K E S H ρ σ) (hj : ρ[j]? = some (Sl.ow ob)) (hσ : σ[j]? = some (some (V.ref a))) (oa : OwnAt K E S H a ob) (h' : Own K E.hd S (upd H a o') a ob') : EnvOk K E S (upd H a o') (ρ.set j (.ow ob')) σ := by
  have hl := (List.getElem?_eq_some_iff.mp hj).1
  refine ⟨g.w.write oa.nh oa.f0 oa.ns o', by rw [List.length_set]; exact g.len, fun i d q => ?_, fun i o q => ?_, fun i i' o o' b q q' e1 e2 => ?_⟩
  · have n1 : j ≠ i := fun z => by
      subst z
      rw [List.getElem?_set_self hl] at q
      cases q
    rw [List.getElem?_set_ne n1] at q
    exact g.sh i d q
  · by_cases z : j = i
    · subst z
      rw [List.getElem?_set_self hl] at q
      cases q
      exact ⟨a, hσ, oa.f0, oa.ns, oa.nh, h'⟩
    · rw [List.getElem?_set_ne z] at q
      obtain ⟨b, hb, ob2⟩ := g.ow i o q
      have nb : b ≠ a := fun z2 => by
        subst z2
        exact z (g.dj j i _ _ b hj q hσ hb)
      exact ⟨b, hb, ob2.f0, ob2.ns, ob2.nh, ob2.own.same (Same.refl _) fun u q => by rw [upd_ne nb]; exact q⟩
  · have get : ∀ {i : Nat} {o : Ob}, (ρ.set j (.ow ob'))[i]? = some (Sl.ow o) → ∃ o2, ρ[i]? = some (Sl.ow o2) := fun {i o} q => by
      by_cases z : j = i
      · subst z
        exact ⟨ob, hj⟩
      · rw [List.getElem?_set_ne z] at q
        exact ⟨o, q⟩
    obtain ⟨o1, q1⟩ := get q
    obtain ⟨o2, q2⟩ := get q'
    exact g.dj i i' o1 o2 b q1 q2 e1 e2
/-- a value for a slot: shared, or own and new since H -/
def SlAt (K : PySem.W.Frag) (E : Ent) (H S' H' : Hp) : Sl → V → Prop
  | .sh d, v => Rep K E.hd S' d v
  | .ow ob, v => ∃ a, v = .ref a ∧ H a = none ∧ OwnAt K E S' H' a ob
  | .no, _ => False
theorem EnvOk.setS {j : Nat} {s : Sl} {v : V} (g : EnvOk K E S H ρ σ) (go : Go K E S H S' H') (h : SlAt K E H S' H' s v) : EnvOk K E S' H' (ρ.set j s) (σ.set j (some v)) := by
  cases s with
  | no => exact h.elim
  | sh d => exact (g.go go).set j h
  | ow ob =>
    obtain ⟨a, rfl, hn, oa⟩ := h
    have g' := g.go go
    have hl := g.len
    have ne : ∀ {i : Nat} {o : Ob} {b : Addr}, ρ[i]? = some (Sl.ow o) → σ[i]? = some (some (V.ref b)) → b ≠ a := fun {i o b} q e z => by
      subst z
      obtain ⟨c, e2, oc⟩ := g.ow i o q
      rw [e] at e2
      cases e2
      obtain ⟨u, hu⟩ := oc.own.some
      rw [hn] at hu
      cases hu
    refine ⟨go.w, by rw [List.length_set, List.length_set]; exact hl, fun i d q => ?_, fun i o q => ?_, fun i i' o o' b q q' e1 e2 => ?_⟩
    · have n1 : j ≠ i := fun z => by
        subst z
        have hj := (List.getElem?_eq_some_iff.mp q).1
        rw [List.length_set] at hj
        rw [List.getElem?_set_self hj] at q
        cases q
      rw [List.getElem?_set_ne n1] at q ⊢
      exact g'.sh i d q
    · by_cases z : j = i
      · subst z
        have hj := (List.getElem?_eq_some_iff.mp q).1
        rw [List.length_set] at hj
        rw [List.getElem?_set_self hj] at q
        cases q
        exact ⟨a, List.getElem?_set_self (by omega), oa⟩
      · rw [List.getElem?_set_ne z] at q ⊢
        exact g'.ow i o q
    · by_cases z : j = i
      · subst z
        have hj := (List.getElem?_eq_some_iff.mp q).1
        rw [List.length_set] at hj
        by_cases z' : j = i'
        · exact z'
        · rw [List.getElem?_set_ne z'] at q' e2
          rw [List.getElem?_set_self (by omega)] at e1
          cases e1
          exact absurd rfl (ne q' e2)
      · rw [List.getElem?_set_ne z] at q e1
        by_cases z' : j = i'
        · subst z'
          have hj := (List.getElem?_eq_some_iff.mp q').1
          rw [List.length_set] at hj
          rw [List.getElem?_set_self (by omega)] at e2
          cases e2
          exact absurd rfl (ne q e1)
        · rw [List.getElem?_set_ne z'] at q' e2
          exact g.dj i i' o o' b q q' e1 e2
theorem SlAt.go {s : Sl} {v : V} {H0 S2 H2 : Hp} (h : SlAt K E H0 S H s v) (go : Go K E S H S2 H2) : SlAt K E H0 S2 H2 s v := by
  cases s with
  | no => exact h
  | sh d => exact Rep.mono go.s h
  | ow ob =>
    obtain ⟨a, e, n, oa⟩ := h
    exact ⟨a, e, n, oa.go go⟩
/-- fresh since later is fresh since earlier -/
theorem SlAt.back {s : Sl} {v : V} {S0 H0 S2 H2 : Hp} (h : SlAt K E H S2 H2 s v) (go : Go K E S0 H0 S H) : SlAt K E H0 S2 H2 s v := by
  cases s with
  | no => exact h
  | sh d => exact h
  | ow ob =>
    obtain ⟨a, e, n, oa⟩ := h
    refine ⟨a, e, ?_, oa⟩
    cases q : H0 a with
    | none => rfl
    | some u =>
      rw [go.h a u q oa.nh] at n
      cases n
end
/-- an expression for a slot -/
def tGSl (K : PySem.W.Frag) (ρ : Rho) (Q : Sl → Prop) : TE := fun σ H R => ∃ E S, EnvOk K E S H ρ σ ∧ ∀ s v S' H', Q s → Go K E S H S' H' → SlAt K E H S' H' s v → R v H'
def Dl1 (X : Cx) (ρ : Rho) (e : Expr) (Q : Sl → Prop) : Prop := PE X e (tGSl X.K ρ Q)
def Dl (F : Fam) (ρ : Rho) (e : Expr) (Q : Sl → Prop) : Prop := ∀ i, Dl1 (F.cx i) ρ e Q
def tAllL (X : Cx) (e : Expr) : TE := fun σ H R => ∃ ρ Q, Dl1 X ρ e Q ∧ tGSl X.K ρ Q σ H R
theorem pe_allL {X : Cx} {e : Expr} : PE X e (tAllL X e) := ⟨fun pins s σ H Q I ⟨ρ, Q', d, g⟩ => d.run pins s σ H Q I g⟩
section
variable {F : Fam} {ρ : Rho} {a b c e : Expr} {es : List Expr} {pos : Pos} {k : Ek}
theorem Dl.sh {Q : Sl → Prop} (h : De F ρ e fun d => Q (.sh d)) : Dl F ρ e Q := fun i => PE.imp (h i) fun σ H R ⟨E, S, g, k⟩ => ⟨E, S, g, fun d v S' H' q go r => k (.sh d) v S' H' q go r⟩
theorem Dl.of {X : Cx} {t : TE} {Q : Sl → Prop} (h : PE X e t) (i : ∀ E S H σ R, EnvOk X.K E S H ρ σ → (∀ d v S' H', Q d → Go X.K E S H S' H' → SlAt X.K E H S' H' d v → R v H') → t σ H R) : Dl1 X ρ e Q :=
  PE.imp h fun σ H R ⟨E, S, g, k⟩ => i E S H σ R g k
/-- a new list, own -/
theorem Dl.lst {Q : Sl → Prop} (h : Da F ρ es fun xs => xs.length ≤ sizeLine ∧ Q (.ow (.lst xs))) : Dl F ρ (.List es pos) Q := fun i =>
  Dl.of (pe_lst pa_all) fun E S H σ R g k => h.all g fun xs vs S1 H1 q g1 r => ⟨by have e := Reps.length r; omega, fun p hp => by
    have g2 := g1.w.fresh (o := .lst vs) hp
    refine k _ _ _ _ q.2 (g1.trans g2) ⟨p, rfl, ?_, g1.w.f0 hp, g1.w.sh.free hp, g1.w.nhd hp, vs, upd_same, r⟩
    cases q : H p with
    | none => rfl
    | some u =>
      rw [g1.h p u q (g1.w.nhd hp)] at hp
      cases hp⟩
/-- a comprehension, own -/
theorem Dl.lc {tg iter elt : Expr} {scope : Scope} {t : TgD} {Q : Sl → Prop} (own : List (Str × Nat)) (c : Ifs) (tt : Tgt (F.blk scope) tg t) (ok : ∀ i, BlkOk (F.cx i).N (F.cx i).env.scope scope own) (hN : ∀ i, (F.cx i).N.Nodup)
    (h : Di F ρ tg iter fun ds => ds.length ≤ sizeLine ∧ lcD t (wipeR ρ (own.map (·.2))) (c.D (F.blk scope)) (fun ρ' Q => De (F.blk scope) ρ' elt Q) ds fun ys => Q (.ow (.lst ys))) (ht : ∀ j ∈ t.slots, j ∈ own.map (·.2) := by decide)
    (hs : ∀ i x, foldedSetIterable iter (F.cx i).env x = pure x := by intro _ _; rfl) : Dl F ρ (.ListComp elt [⟨tg, iter, c.list, 0⟩] scope pos) Q := fun i =>
  Dl.of (pe_lc (F.calm i) (hN i) pi_all (ok i) (pg_allF tt) pts_all pe_allF (hs i)) fun E S H σ R g k => lc_read h ht i g fun ys xs p S' H' q g' hp sp e r =>
    k (.ow (.lst ys)) (.ref p) _ H' q g' ⟨p, rfl, hp, g.w.f0 hp, sp, g.w.nhd hp, xs, e, r⟩

/-! ### blocks and statements -/
theorem Db.nil (h : k.nx ρ) : Db F ρ [] k := fun i => Db1.of pss_nil fun E S H σ D' g q => q.nx ρ S H σ h (Same.refl _) g
theorem Db.cons {st : Stmt} {rest : List Stmt} (h : Ds F ρ st { k with nx := fun ρ' => Db F ρ' rest k }) : Db F ρ (st :: rest) k := fun i =>
  Db1.of (pss_cons ps_all pss_all) fun E S H σ D' g q => h.all g ⟨fun ρ' S' H' σ' a s g' => a.all g' (q.go s), fun d v S' H' a w r => q.rt d v S' H' a w r, fun ρ' d v S' H' σ' a s g' r => q.rr ρ' d v S' H' σ' a s g' r, fun ρ' S' H' σ' a s g' => q.bk ρ' S' H' σ' a s g', fun ρ' S' H' σ' a s g' => q.ct ρ' S' H' σ' a s g'⟩
theorem Db.one {st : Stmt} (h : Ds F ρ st k) : Db F ρ [st] k := fun i => Db1.of (pss_one ps_all) fun E S H σ D' g q => h.all g q
theorem Ds.ret (h : De F ρ e k.rt) : Ds F ρ (.Return (some e) pos) k := fun i =>
  Ds1.of (ps_ret pe_all) fun E S H σ D' g q => h.all g fun d v S' H' qd go r => q.rt d v S' H' qd go.w r
theorem Ds.retR (h : De F ρ e (k.rr ρ)) : Ds F ρ (.Return (some e) pos) k := fun i =>
  Ds1.of (ps_ret pe_all) fun E S H σ D' g q => h.all g fun d v S' H' qd go r => q.rr ρ d v S' H' σ qd go.s (g.go go) r
theorem Ds.if_ {body els : List Stmt} (h : Dt F ρ c fun b => (b = true → Db F ρ body k) ∧ (b = false → Db F ρ els k)) : Ds F ρ (.If c body els pos) k := fun i =>
  Ds1.of (ps_if pt_all pss_all pss_all) fun E S H σ D' g q => h.all g fun b S' H' qb go => by
    cases b with
    | true => exact (qb.1 rfl).all (g.go go) (q.go go.s)
    | false => exact (qb.2 rfl).all (g.go go) (q.go go.s)
theorem Ds.pass (h : k.nx ρ) : Ds F ρ (.Pass pos) k := fun i => Ds1.of ps_pass fun E S H σ D' g q => q.nx ρ S H σ h (Same.refl _) g
theorem Ds.cont (h : k.ct ρ) : Ds F ρ (.Continue pos) k := fun i => Ds1.of ps_continue fun E S H σ D' g q => q.ct ρ S H σ h (Same.refl _) g
theorem Ds.brk (h : k.bk ρ) : Ds F ρ (.Break pos) k := fun i => Ds1.of ps_break fun E S H σ D' g q => q.bk ρ S H σ h (Same.refl _) g
theorem Ds.expr (h : De F ρ e fun _ => k.nx ρ) (hs : ∀ i, swapsWith e none pos.line (F.cx i).env = pure false := by intro _; rfl) : Ds F ρ (.Expr e pos) k := fun i =>
  Ds1.of (ps_expr pe_all (hs i)) fun E S H σ D' g q => h.all g fun d v S' H' qd go r => q.nx ρ S' H' σ qd go.s (g.go go)
/-- name = e -/
theorem Ds.set (j : Nat) {x : Str} {pos' : Pos} (hN : ∀ i, (F.cx i).N.Nodup) (h : Dl F ρ e fun s => k.nx (ρ.set j s)) (hi : ∀ i, (F.cx i).N[j]? = some x := by intro _; rfl) (hx : ∀ i, Loc (F.cx i).env.scope x := by intro _; first | exact Or.inl rfl | exact Or.inr rfl)
    (hs : ∀ i, swapsWith e (some (.Name x pos')) pos.line (F.cx i).env = pure false := by intro _; rfl) (hf : ∀ i, (F.cx i).fn x = true ∨ (F.cx i).env.scope.names.lookup x = some .local := by intro _; first | exact Or.inl rfl | exact Or.inr rfl) :
    Ds F ρ (.Assign [.Name x pos'] e pos) k := fun i =>
  Ds1.of (ps_set (hN i) (hi i) (hx i) pe_allL (hs i) (hf i)) fun E S H σ D' g q => ⟨ρ, _, h i, E, S, g, fun s v S' H' qs go r => q.nx _ S' H' _ qs go.s (g.setS go r)⟩
/-- name = [..] on one line -/
theorem Ds.setLc (j : Nat) {x : Str} {pos' cpos : Pos} {tg iter elt : Expr} {scope : Scope} {t : TgD} (own : List (Str × Nat)) (c : Ifs) (tt : Tgt (F.blk scope) tg t) (ok : ∀ i, BlkOk (F.cx i).N (F.cx i).env.scope scope own) (hN : ∀ i, (F.cx i).N.Nodup)
    (h : Di F ρ tg iter fun ds => ds.length ≤ sizeLine ∧ lcD t (wipeR ρ (own.map (·.2))) (c.D (F.blk scope)) (fun ρ' Q => De (F.blk scope) ρ' elt Q) ds fun ys => k.nx (ρ.set j (.ow (.lst ys)))) (hi : ∀ i, (F.cx i).N[j]? = some x := by intro _; rfl)
    (hx : ∀ i, (F.cx i).env.scope.names.lookup x = some .local := by intro _; rfl) (hsw : ∀ i, swapsWith (.ListComp elt [⟨tg, iter, c.list, 0⟩] scope cpos) (some (.Name x pos')) pos.line (F.cx i).env = pure true := by intro _; exact sw_true rfl rfl rfl (by decide +kernel))
    (ht : ∀ j ∈ t.slots, j ∈ own.map (·.2) := by decide) (hs : ∀ i x, foldedSetIterable iter (F.cx i).env x = pure x := by intro _ _; rfl) : Ds F ρ (.Assign [.Name x pos'] (.ListComp elt [⟨tg, iter, c.list, 0⟩] scope cpos) pos) k := fun i =>
  Ds1.of (ps_setLc (F.calm i) (hN i) (hi i) (hx i) (hsw i) pi_all (ok i) (pg_allF tt) pts_all pe_allF (hs i)) fun E S H σ D' g q => lc_read h ht i g fun ys xs p S' H' qs g' hp sp e r =>
    q.nx _ S' H' _ qs g'.s (g.setS g' ⟨p, rfl, hp, g.w.f0 hp, sp, g.w.nhd hp, xs, e, r⟩)
/-- a, b = e by a value that is a tuple -/
theorem Ds.unp {tg : Expr} {t : TgD} (tt : Tgt F tg t) (h : De F ρ e fun d => ∃ ρ', setN t d ρ = some ρ' ∧ k.nx ρ') (hs : ∀ i, swapsWithSole [tg] e pos.line (F.cx i).env = pure false := by intro _; rfl) (hw : ∀ i, swappedStores [tg] e (F.cx i).env = pure none := by intro _; rfl)
    (h1 : ∀ i, (assignEach [tg] (F.cx i).env).map (·.2) = [assign tg (F.cx i).env] := by intro _; rfl) : Ds F ρ (.Assign [tg] e pos) k := fun i =>
  Ds1.of (ps_asg pe_all (tt.ok i) (hs i) (hw i) (h1 i)) fun E S H σ D' g q => h.all g fun d v S' H' qd go r => by
    obtain ⟨ρ', e1, qn⟩ := qd
    obtain ⟨σ', hg, g2, _⟩ := gOf_ok e1 r (g.go go)
    exact hg _ (q.nx ρ' S' H' σ' qn go.s g2)
/-- a, b = x, y with plain local names -/
theorem Ds.par2 (j j' : Nat) {x y : Str} {px py pt : Pos} {kt k2 pt2} (hN : ∀ i, (F.cx i).N.Nodup) (h : Dl F ρ a fun s => Dl F ρ b fun s' => k.nx ((ρ.set j s).set j' s')) (hj : j ≠ j' := by decide) (hi : ∀ i, (F.cx i).N[j]? = some x := by intro _; rfl) (hi' : ∀ i, (F.cx i).N[j']? = some y := by intro _; rfl)
    (hx : ∀ i, (F.cx i).env.scope.names.lookup x = some .local := by intro _; rfl) (hy : ∀ i, (F.cx i).env.scope.names.lookup y = some .local := by intro _; rfl)
    (hw : ∀ i, swappedStores [.Tuple [.Name x px, .Name y py] kt pt] (.Tuple [a, b] k2 pt2) (F.cx i).env = pure (some [x, y]) := by intro _; rfl) (hs : ∀ i, swapsWithSole [.Tuple [.Name x px, .Name y py] kt pt] (.Tuple [a, b] k2 pt2) pos.line (F.cx i).env = pure false := by intro _; rfl)
    (hsa : ∀ i, starEach [a, b] (F.cx i).env = (false, eval a (F.cx i).env) :: starEach [b] (F.cx i).env := by intro _; rfl) (hsb : ∀ i, starEach [b] (F.cx i).env = (false, eval b (F.cx i).env) :: starEach [] (F.cx i).env := by intro _; rfl) :
    Ds F ρ (.Assign [.Tuple [.Name x px, .Name y py] kt pt] (.Tuple [a, b] k2 pt2) pos) k := fun i =>
  Ds1.of (ps_par (F.calm i) (hN i) (hi i) (hi' i) hj (hx i) (hy i) (pa_cons pe_allL (pa_cons pe_allL pa_nil (hsb i)) (hsa i)) (hw i) (hs i)) fun E S H σ D' g q => by
    refine ⟨ρ, _, h i, E, S, g, fun s v S1 H1 q1 g1 r1 => ?_⟩
    refine ⟨ρ, _, q1 i, E, S1, g.go g1, fun s' v' S2 H2 q2 g2 r2 => ?_⟩
    exact ⟨v, v', rfl, q.nx _ S2 H2 _ q2 (g1.trans g2).s ((g.setS g1 r1).setS g2 r2)⟩
theorem Ds.par3 (j j' j'' : Nat) {x y z : Str} {px py pz pt : Pos} {kt k2 pt2} (hN : ∀ i, (F.cx i).N.Nodup) (h : Dl F ρ a fun s => Dl F ρ b fun s' => Dl F ρ c fun s'' => k.nx (((ρ.set j s).set j' s').set j'' s'')) (hj : j ≠ j' := by decide) (hj1 : j ≠ j'' := by decide) (hj2 : j' ≠ j'' := by decide)
    (hi : ∀ i, (F.cx i).N[j]? = some x := by intro _; rfl) (hi' : ∀ i, (F.cx i).N[j']? = some y := by intro _; rfl) (hi'' : ∀ i, (F.cx i).N[j'']? = some z := by intro _; rfl)
    (hx : ∀ i, (F.cx i).env.scope.names.lookup x = some .local := by intro _; rfl) (hy : ∀ i, (F.cx i).env.scope.names.lookup y = some .local := by intro _; rfl) (hz : ∀ i, (F.cx i).env.scope.names.lookup z = some .local := by intro _; rfl)
    (hw : ∀ i, swappedStores [.Tuple [.Name x px, .Name y py, .Name z pz] kt pt] (.Tuple [a, b, c] k2 pt2) (F.cx i).env = pure (some [x, y, z]) := by intro _; rfl) (hs : ∀ i, swapsWithSole [.Tuple [.Name x px, .Name y py, .Name z pz] kt pt] (.Tuple [a, b, c] k2 pt2) pos.line (F.cx i).env = pure false := by intro _; rfl)
    (hsa : ∀ i, starEach [a, b, c] (F.cx i).env = (false, eval a (F.cx i).env) :: starEach [b, c] (F.cx i).env := by intro _; rfl) (hsb : ∀ i, starEach [b, c] (F.cx i).env = (false, eval b (F.cx i).env) :: starEach [c] (F.cx i).env := by intro _; rfl) (hsc : ∀ i, starEach [c] (F.cx i).env = (false, eval c (F.cx i).env) :: starEach [] (F.cx i).env := by intro _; rfl) :
    Ds F ρ (.Assign [.Tuple [.Name x px, .Name y py, .Name z pz] kt pt] (.Tuple [a, b, c] k2 pt2) pos) k := fun i =>
  Ds1.of (ps_par3 (F.calm i) (hN i) (hi i) (hi' i) (hi'' i) hj hj1 hj2 (hx i) (hy i) (hz i) (pa_cons pe_allL (pa_cons pe_allL (pa_cons pe_allL pa_nil (hsc i)) (hsb i)) (hsa i)) (hw i) (hs i)) fun E S H σ D' g q => by
    refine ⟨ρ, _, h i, E, S, g, fun s v S1 H1 q1 g1 r1 => ?_⟩
    refine ⟨ρ, _, q1 i, E, S1, g.go g1, fun s' v' S2 H2 q2 g2 r2 => ?_⟩
    refine ⟨ρ, _, q2 i, E, S2, (g.go g1).go g2, fun s'' v'' S3 H3 q3 g3 r3 => ?_⟩
    exact ⟨v, v', v'', rfl, q.nx _ S3 H3 _ q3 ((g1.trans g2).trans g3).s (((g.setS g1 r1).setS g2 r2).setS g3 r3)⟩
theorem Ds.freeze (j : Nat) {st : Stmt} {ob : Ob} (hj : ρ[j]? = some (Sl.ow ob)) (h : Ds F (ρ.set j (.sh ob.d)) st k) (pl : ob.plain = true := by rfl) : Ds F ρ st k := fun i =>
  PS.imp (h i) fun D' σ H ⟨E, S, g, q⟩ => by
    obtain ⟨S', s, g'⟩ := g.freeze hj pl
    exact ⟨E, S', g', q.go s⟩
theorem Db.freeze (j : Nat) {st : List Stmt} {ob : Ob} (hj : ρ[j]? = some (Sl.ow ob)) (h : Db F (ρ.set j (.sh ob.d)) st k) (pl : ob.plain = true := by rfl) : Db F ρ st k := fun i =>
  PSs.imp (h i) fun D' σ H ⟨E, S, g, q⟩ => by
    obtain ⟨S', s, g'⟩ := g.freeze hj pl
    exact ⟨E, S', g', q.go s⟩
/-- xs.append(e), xs own -/
theorem Ds.append (j : Nat) {x : Str} {l : List D} {px apos cpos : Pos} (hj : ρ[j]? = some (Sl.ow (.lst l))) (hz : l.length < sizeLine) (h : De F ρ e fun d => k.nx (ρ.set j (.ow (.lst (l ++ [d])))))
    (hN : ∀ i, (F.cx i).N[j]? = some x := by intro _; rfl) (hv : ∀ i, Vis (F.cx i).env.scope x := by intro _; first | exact Or.inl rfl | exact Or.inr (Or.inl rfl) | exact Or.inr (Or.inr rfl)) (h1 : (x == ("__debug__" : Str)) = false := by decide) (h2 : (x == ("__classdict__" : Str)) = false := by decide)
    (he : ∀ i, starEach [e] (F.cx i).env = (false, eval e (F.cx i).env) :: starEach [] (F.cx i).env := by intro _; rfl)
    (hfew : ∀ i, ((backTo cpos (starEach [e] (F.cx i).env)).all (fun x => !x.1) && (backToKw cpos (keywordEach [] (F.cx i).env)).all (fun x => x.1.isSome) && decide ([e].length + ([] : List Keyword).length + (if ([] : List Keyword).isEmpty then 0 else 1) < 30)) = true := by intro _; rfl)
    (hpl : ∀ i, (backTo cpos (starEach [] (F.cx i).env)).any (·.1) = false := by intro _; rfl)
    (hb : ∀ i, attributeBase (.Name x px) "append" (F.cx i).env (eval (.Name x px) (F.cx i).env) = eval (.Name x px) (F.cx i).env := by intro _; rfl) (hl : (apos.endLine == cpos.line) = true := by rfl) (hs : ∀ i, swapsWith (.Call (.Attribute (.Name x px) "append" apos) [e] [] cpos) none pos.line (F.cx i).env = pure false := by intro _; rfl) :
    Ds F ρ (.Expr (.Call (.Attribute (.Name x px) "append" apos) [e] [] cpos) pos) k := fun i =>
  Ds1.of (ps_expr (pe_bm PySem.F.plainAttrs_list PySem.F.slot_list_append PySem.F.type_list_append mt_append (pe_var (hN i) (hv i) h1 h2) (pa_cons pe_all pa_nil (he i)) (hb i) (hfew i) hl (he i) (hpl i)) (hs i)) fun E S H σ D' g q => by
    obtain ⟨a, hσ, oa⟩ := g.ow j _ hj
    obtain ⟨xs, e0, r0⟩ := oa.own
    refine ⟨_, hσ, .inl ⟨rfl, xs, .of e0⟩, h.all g fun d v S1 H1 qd g1 r => ?_⟩
    have oa1 := oa.go g1
    have e1 : H1 a = some (.lst xs) := g1.h a _ e0 oa.nh
    refine ⟨a, xs, v, rfl, rfl, e1, by rw [← Reps.length r0]; exact hz, ?_⟩
    exact q.nx _ S1 _ σ qd g1.s ((g.go g1).put hj hσ oa1 ⟨xs ++ [v], upd_same, Reps.app (Reps.mono g1.s r0) (Reps.cons r Reps.nil)⟩)
/-- xs[i] = e, xs own -/
theorem Ds.setIx (j : Nat) {x : Str} {l : List D} {px tpos : Pos} (hj : ρ[j]? = some (Sl.ow (.lst l))) (h : De F ρ e fun d => De F ρ b (isI fun n => 0 ≤ n ∧ n < l.length ∧ k.nx (ρ.set j (.ow (.lst (l.set n.toNat d))))))
    (hN : ∀ i, (F.cx i).N[j]? = some x := by intro _; rfl) (hv : ∀ i, Vis (F.cx i).env.scope x := by intro _; first | exact Or.inl rfl | exact Or.inr (Or.inl rfl) | exact Or.inr (Or.inr rfl)) (h1 : (x == ("__debug__" : Str)) = false := by decide) (h2 : (x == ("__classdict__" : Str)) = false := by decide)
    (ha : ∀ i v, assign (.Subscript (.Name x px) b tpos) (F.cx i).env v = (do
      let ov ← holding [v] (eval (.Name x px) (F.cx i).env)
      let iv ← holding [v, ov] (eval b (F.cx i).env)
      standAt tpos
      holding [v, ov, iv] (setItem ov iv v)
      release [v, ov, iv] []) := by intro _ _; rfl)
    (hs : ∀ i, swapsWithSole [.Subscript (.Name x px) b tpos] e pos.line (F.cx i).env = pure false := by intro _; rfl) (hw : ∀ i, swappedStores [.Subscript (.Name x px) b tpos] e (F.cx i).env = pure none := by intro _; rfl)
    (hh : ∀ i, (assignEach [.Subscript (.Name x px) b tpos] (F.cx i).env).map (·.2) = [assign (.Subscript (.Name x px) b tpos) (F.cx i).env] := by intro _; rfl) :
    Ds F ρ (.Assign [.Subscript (.Name x px) b tpos] e pos) k := fun i =>
  Ds1.of (ps_asg pe_all (pg_sub (pe_var (hN i) (hv i) h1 h2) pe_all set_list (ha i)) (hs i) (hw i) (hh i)) fun E S H σ D' g q => by
    obtain ⟨a, hσ, oa⟩ := g.ow j _ hj
    refine h.all g fun d v S1 H1 qd g1 r => ?_
    refine ⟨_, hσ, qd.all (g.go g1) fun y u S2 H2 qy g2 ry => ?_⟩
    obtain ⟨n, rfl, n0, nl, qn⟩ := isI_of qy
    have g12 := g1.trans g2
    have oa2 := oa.go g12
    obtain ⟨xs, e2, r2⟩ := oa2.own
    cases (show u = _ from ry)
    have lx := Reps.length r2
    refine ⟨a, xs, n, n.toNat, rfl, rfl, e2, ?_, ?_⟩
    · unfold ixN
      rw [if_pos n0, if_pos (by omega)]
    · exact q.nx _ S2 _ σ qn g12.s ((g.go g12).put hj hσ oa2 ⟨xs.set n.toNat v, upd_same, Reps.set r2 (r.mono g2.s)⟩)
/-- self.f = e, self own, f new -/
theorem putF_new {f : Str} {v : V} : ∀ {ns : List Str} {xs : List V}, f ∉ ns → ns.length = xs.length → putF f v (ns.zip xs) = (ns ++ [f]).zip (xs ++ [v])
  | [], [], _, _ => rfl
  | [], _ :: _, _, h => by cases h
  | _ :: _, [], _, h => by cases h
  | n :: ns, x :: xs, hn, hl => by
    show (if n = f then (n, v) :: ns.zip xs else (n, x) :: putF f v (ns.zip xs)) = (n, x) :: (ns ++ [f]).zip (xs ++ [v])
    rw [if_neg (fun z => hn (by rw [z]; exact List.mem_cons_self)), putF_new (fun z => hn (List.mem_cons_of_mem _ z)) (by simpa using hl)]
theorem Ds.setFld (j : Nat) {x C : Addr} {f y : Str} {ns : List Str} {fs : List D} {px pos' : Pos} (hj : ρ[j]? = some (Sl.ow (.ins x C ns fs))) (hc : ∀ i, Cls (F.cx i).K C) (hna : ∀ i, NoAttr (F.cx i).K C f) (hf : f ∉ ns) (hz : ns.length < 1000)
    (h : De F ρ e fun d => k.nx (ρ.set j (.ow (.ins x C (ns ++ [f]) (fs ++ [d])))))
    (hN : ∀ i, (F.cx i).N[j]? = some y := by intro _; rfl) (hv : ∀ i, Vis (F.cx i).env.scope y := by intro _; first | exact Or.inl rfl | exact Or.inr (Or.inl rfl) | exact Or.inr (Or.inr rfl)) (h1 : (y == ("__debug__" : Str)) = false := by decide) (h2 : (y == ("__classdict__" : Str)) = false := by decide)
    (hs : ∀ i, swapsWith e (some (.Attribute (.Name y px) f pos')) pos.line (F.cx i).env = pure false := by intro _; rfl) : Ds F ρ (.Assign [.Attribute (.Name y px) f pos'] e pos) k := fun i =>
  Ds1.of (ps_fld (pe_var (hN i) (hv i) h1 h2) pe_all (hs i)) fun E S H σ D' g q => by
    obtain ⟨a, hσ, oa⟩ := g.ow j _ hj
    refine h.all g fun d v S1 H1 qd g1 r => ?_
    have oa1 := oa.go g1
    obtain ⟨ea, dx, xs, e1, hl, r1⟩ := oa1.own
    refine ⟨_, hσ, a, C, dx, _, rfl, e1, hc i, hna i, by rw [List.length_zip]; omega, ?_⟩
    rw [putF_new hf hl]
    exact q.nx _ S1 _ σ qd g1.s ((g.go g1).put hj hσ oa1 ⟨ea, dx, xs ++ [v], upd_same, by rw [List.length_append, List.length_append, hl]; rfl, Reps.app r1 (Reps.cons r Reps.nil)⟩)
end

/-! ### isinstance -/
/-- the facts of an own class that isinstance asks -/
structure ClsI (K : PySem.W.Frag) (C : Addr) : Prop where
  cl : Cls K C
  ha : PySem.W.findIn K (.ref C) "__class__" = some (some (.builtin "object.__class__"))
  hn : PySem.W.specialIn K (.builtin "object.__class__") "__get__" = some (some (.builtin "getset_descriptor.__get__"))
  htk : PySem.W.takesIn K (.builtin "object.__class__") = some true
  hm : PySem.W.mroIn K C (.type "object") = some true
/-- the class of data -/
def D.ty (K : PySem.W.Frag) : D → Value → Prop
  | .non, t => t = .type "NoneType"
  | .bl _, t => t = .type "bool"
  | .int _, t => t = .type "int"
  | .str _, t => t = .type "str"
  | .lst _, t => t = .type "list"
  | .tup _, t => t = .type "tuple"
  | .ins C _ _, t => t = .ref C ∧ ClsI K C
  | _, _ => False
theorem D.tyx {K : PySem.W.Frag} {E : Ent} {S H : Hp} {d : D} {v : V} {t : Value} (w : Wld K E S H) (r : Rep K E.hd S d v) (h : d.ty K t) : TyX K H v t := by
  cases d with
  | non => cases (show v = _ from r); cases (show t = _ from h); exact .base .non
  | bl b => cases (show v = _ from r); cases (show t = _ from h); exact .base (.bl _)
  | int b => cases (show v = _ from r); cases (show t = _ from h); exact .base (.int _)
  | str b => cases (show v = _ from r); cases (show t = _ from h); exact .base (.str _)
  | lst l =>
    obtain ⟨p, xs, rfl, e, _⟩ := r
    cases (show t = _ from h)
    exact .base (.lst (w.sh _ _ e))
  | tup l =>
    obtain ⟨p, xs, rfl, e, _⟩ := r
    cases (show t = _ from h)
    rcases Same.sqT w.sh e with (e | ⟨o, e⟩) | ⟨o, its, n, e, c, _⟩
    · exact .base (.tup e)
    · exact .fTuple e
    · exact .kTuple e c
  | ins C ns ds =>
    obtain ⟨p, dx, xs, rfl, e, _⟩ := r
    obtain ⟨e2, c⟩ := h
    cases e2
    exact .base (.ins (w.sh _ _ e) c.cl c.ha c.hn c.htk c.hm)
  | hand => exact h.elim
  | raw u => exact h.elim
  | vals _ => exact h.elim
  | frl _ => exact h.elim
def dIsi (K : PySem.W.Frag) (ds : List D) (Q : DQ) : Prop := match ds with
  | [d, .raw c] => ∃ t u b, d.ty K t ∧ ClsV c u ∧ PySem.W.kitOne K t u = some b ∧ Q (.bl b)
  | _ => False
section
variable {F : Fam} {ρ : Rho} {a b c e : Expr} {es : List Expr} {pos : Pos} {Q : DQ}
theorem De.isi {p : Pos} (hm : ∀ i, (F.cx i).mg "isinstance" = none) (h : Da F ρ (e :: es) fun ds => ∀ i, dIsi (F.cx i).K ds Q) (hg : ∀ i, Gl (F.cx i) "isinstance" := by intro _; rfl) (he : ∀ i, starEach (e :: es) (F.cx i).env = (false, eval e (F.cx i).env) :: starEach es (F.cx i).env := by intro _; rfl) (hpl : ∀ i, (backTo pos (starEach es (F.cx i).env)).any (·.1) = false := by intro _; rfl) :
    De F ρ (.Call (.Name "isinstance" p) (e :: es) [] pos) Q := fun i =>
  De1.of (pe_callB call_isi (hg i) (hm i) (by decide +kernel) pa_all (by decide) (by decide) (he i) (hpl i)) fun E S H σ R g k => h.all g fun ds vs S1 H1 q g1 rr => by
    have q := q i
    unfold dIsi at q
    split at q
    · obtain ⟨t, u, b, ht, hc, hk, q⟩ := q
      obtain ⟨v, v', rfl, r1, r2⟩ := Reps.two rr
      cases (show v' = _ from r2)
      exact ⟨v, _, t, u, b, rfl, hc, D.tyx g1.w r1 ht, hk, k _ _ S1 H1 q g1 rfl⟩
    · exact q.elim
end

/-! ### instances made -/
abbrev SpecI := List D → (List Str → List D → Prop) → Prop
def spI (K : PySem.W.Frag) (C : Addr) (f : SpecI) : Sp := fun vs H R _ => ∃ E S x dx ds vs' Q, vs = .ref x :: vs' ∧ Wld K E S H ∧ H x = some (.ins C dx []) ∧ S x = none ∧ E.H0 x = none ∧ E.hd ≠ some x ∧ Reps K E.hd S ds vs' ∧ f ds Q ∧
  ∀ ns fs xs dx' S' H', Q ns fs → Wld K E S' H' → Same S S' → S' x = none → (∀ b o, H b = some o → b ≠ x → E.hd ≠ some b → H' b = some o) → (∀ b o, S' b = some o → S b = none → H b = none) → H' x = some (.ins C dx' (ns.zip xs)) → ns.length = xs.length → Reps K E.hd S' fs xs → R .non H'
/-- THE RULE for an __init__ at data -/
theorem defInit {G : Glo} {C : Addr} {x0 qual self : Str} {st : Stmt} {f : Addr} {fd : FuncData} {N ps : List Str} {k : Nat} {spec : SpecI} (F : Fun G.K x0 qual st f fd) (S : FnScope (self :: N) ps (defScope st)) (hl : ∀ ds Q, spec ds Q → ds.length + 1 = ps.length)
    (h : ∀ x ds Q, spec ds Q → Db (fam G (self :: N) qual (defScope st) k) (.ow (.ins x C [] []) :: rho0 N ds) (defBody st) { nx := fun ρ => ∃ ns fs, ρ[0]? = some (Sl.ow (.ins x C ns fs)) ∧ Q ns fs }) : FnOk G.P G.w G.K G.mg G.base CX0 (k + 1) f fd ps (spI G.K C spec) := by
  refine F.ok S (fun vs H R E hs => ?_) (fun cdv A outer s H vs R E hr hs => ?_)
  · obtain ⟨E', S', x, dx, ds, vs', Q, rfl, w, e, sx, hx, nh, r, hq, _⟩ := hs
    rw [List.length_cons, ← Reps.length r]
    exact hl ds Q hq
  · obtain ⟨E', S', x, dx, ds, vs', Q, rfl, w, e, sx, hx, nh, r, hq, kk⟩ := hs
    have lr := Reps.length r
    have gx : ∀ (i : Nat), (L2.start (self :: N) (.ref x :: vs'))[i + 1]? = (vs'.map some ++ List.replicate (N.length - vs'.length) none)[i]? := fun i => by
      unfold L2.start
      rw [List.map_cons, List.cons_append, List.getElem?_cons_succ]
      congr 2
      simp only [List.length_cons, Nat.add_sub_add_right]
    have wE : Wld G.K ⟨E'.hd, E'.hc, S', fun b => if b = x then none else H b⟩ S' H := by
      refine ⟨w.sh, Same.refl _, w.hand, w.nh, fun b o q n => ?_, fun b o q n => ?_⟩
      · have q : (if b = x then none else H b) = some o := q
        by_cases z : b = x
        · rw [if_pos z] at q; cases q
        · rw [if_neg z] at q; exact q
      · have n : S' b = none := n
        rw [n] at q
        cases q
    refine ⟨_, h x ds Q hq ⟨f, cdv, A, outer, s, H, E, hr⟩, ⟨E'.hd, E'.hc, S', fun b => if b = x then none else H b⟩, S', ⟨wE, ?_, fun i d q => ?_, fun i o q => ?_, fun i j o o' a q q' _ _ => ?_⟩, ?_⟩
    · show (L2.start (self :: N) (.ref x :: vs')).length = _
      unfold L2.start rho0
      simp only [List.length_append, List.length_map, List.length_replicate, List.length_cons]
      omega
    · cases i with
      | zero => cases q
      | succ i =>
        rw [List.getElem?_cons_succ] at q
        have q := rho0_get q
        obtain ⟨v, a, b⟩ := Reps.get r q
        refine ⟨v, ?_, b⟩
        have hi := (List.getElem?_eq_some_iff.mp a).1
        rw [gx, List.getElem?_append_left (by rw [List.length_map]; exact hi), List.getElem?_map, a]
        rfl
    · cases i with
      | zero =>
        cases q
        refine ⟨x, rfl, ?_, sx, nh, rfl, dx, [], e, rfl, rfl⟩
        show (if x = x then none else H x) = none
        rw [if_pos rfl]
      | succ i =>
        rw [List.getElem?_cons_succ] at q
        exact (rho0_ow q).elim
    · cases i with
      | zero =>
        cases j with
        | zero => rfl
        | succ j =>
          rw [List.getElem?_cons_succ] at q'
          exact (rho0_ow q').elim
      | succ i =>
        rw [List.getElem?_cons_succ] at q
        exact (rho0_ow q).elim
    · refine ⟨fun ρ S2 H2 σ q s2 g => ?_, fun _ _ _ _ q => q.elim, fun _ _ _ _ _ _ q => q.elim, fun _ _ _ _ q => q.elim, fun _ _ _ _ q => q.elim⟩
      obtain ⟨ns, fs, e0, qf⟩ := q
      obtain ⟨a, hσ, oa⟩ := g.ow 0 _ e0
      obtain ⟨ea, dx', xs, e1, l1, r1⟩ := oa.own
      subst ea
      refine kk ns fs xs dx' S2 H2 qf ?_ s2 oa.ns (fun b o q nb n => g.w.fr b o (by show (if b = a then none else H b) = some o; rw [if_neg nb]; exact q) n) (fun b o q n => ?_) e1 l1 r1
      · refine ⟨g.w.sh, w.s0.trans s2, g.w.hand, g.w.nh, fun b o q n => ?_, fun b o q n => ?_⟩
        · have nb : b ≠ a := ne_of_none q hx
          exact g.w.fr b o (by show (if b = a then none else H b) = some o; rw [if_neg nb]; exact w.fr b o q n) n
        · cases q2 : S' b with
          | some u => exact w.nw b u q2 n
          | none =>
            have z : (if b = a then none else H b) = none := g.w.nw b o q q2
            by_cases zb : b = a
            · rw [zb]; exact hx
            · rw [if_neg zb] at z
              cases r2 : E'.H0 b with
              | none => rfl
              | some u =>
                by_cases eb : E'.hd = some b
                · rw [g.w.nh b eb] at q
                  cases q
                · rw [w.fr b u r2 eb] at z
                  cases z
      · have z : (if b = a then none else H b) = none := g.w.nw b o q n
        by_cases zb : b = a
        · rw [zb, oa.ns] at q
          cases q
        · rw [if_neg zb] at z
          exact z
/-- the class at a module's name makes instances so -/
structure Maker (G : Glo) (x : Str) (C : Addr) (spec : SpecI) (k : Nat) : Prop where
  ok : ∃ f fd ps, Mk G.K C f ∧ FnOk G.P G.w G.K G.mg G.base CX0 k f fd ps (spI G.K C spec) ∧ G.mg x = some (.ref C) ∧ Binds G.K fd ps []
theorem Maker.at {G : Glo} {X : Cx} {x : Str} {C : Addr} {spec : SpecI} {k : Nat} (c : Maker G x C spec k) (o : Of G X) : ∃ f fd ps, Mk X.K C f ∧ FnOk X.prog X.w X.K X.mg X.base CX0 k f fd ps (spI X.K C spec) ∧ X.mg x = some (.ref C) ∧ Binds X.K fd ps [] := by
  obtain ⟨h1, h2, h3, h4, h5⟩ := o
  rw [h1, h2, h3, h4, h5]
  exact c.ok
theorem De.make {F : Fam} {ρ : Rho} {e : Expr} {es : List Expr} {pos : Pos} {Q : DQ} {G : Glo} {x : Str} {C : Addr} {p : Pos} {spec : SpecI} {k : Nat} (c : Maker G x C spec k) (h : Da F ρ (e :: es) fun ds => spec ds fun ns fs => Q (.ins C ns fs)) (o : ∀ i, Of G (F.cx i) := by intro _; exact ⟨rfl, rfl, rfl, rfl, rfl⟩) (hk : k + 1 ≤ F.k := by exact Nat.le_of_ble_eq_true rfl)
    (hg : ∀ i, Gl (F.cx i) x := by intro _; rfl) (hdb : (x == ("__debug__" : Str)) = false := by decide) (he : ∀ i, starEach (e :: es) (F.cx i).env = (false, eval e (F.cx i).env) :: starEach es (F.cx i).env := by intro _; rfl) (hpl : ∀ i, (backTo pos (starEach es (F.cx i).env)).any (·.1) = false := by intro _; rfl) :
    De F ρ (.Call (.Name x p) (e :: es) [] pos) Q := fun i => by
  obtain ⟨f, fd, ps, M, G', hm, b⟩ := c.at (o i)
  refine De1.of (pe_make M G' ((F.room i).mono hk) (hg i) hm b .nil pass0 pa_all hdb (he i) (hpl i)) fun E S H σ R g k => ?_
  refine h.all g fun ds vs S1 H1 q g1 r => ?_
  intro y dx hy hdx ne
  rw [List.append_nil]
  have ga := g1.w.fresh (o := .own y) hdx
  have hy2 : (upd H1 dx (.own y)) y = none := by rw [upd_ne (Ne.symm ne)]; exact hy
  have gb := ga.w.fresh (o := .ins C dx []) hy2
  refine ⟨E, S1, y, dx, ds, vs, _, rfl, gb.w, upd_same, g1.w.sh.free hy, g1.w.f0 hy, g1.w.nhd hy, r, q, fun ns fs xs dx' S2 H2 qf w2 s2 sy fr nw e2 l2 r2 => ⟨rfl, ?_⟩⟩
  have gc : Go (F.cx i).K E S1 H1 S2 H2 := by
    refine ⟨s2, fun b o q n => ?_, fun b o q n => ?_, w2⟩
    · have n1 : b ≠ y := ne_of_none q hy
      exact fr b o (by rw [upd_ne n1, upd_ne (ne_of_none q hdx)]; exact q) n1 n
    · have z := nw b o q n
      cases q2 : H1 b with
      | none => rfl
      | some u =>
        rw [upd_ne (ne_of_none q2 hy), upd_ne (ne_of_none q2 hdx), q2] at z
        cases z
  exact k _ _ _ H2 qf (g1.trans (gc.share hy (g1.w.nhd hy) (g1.w.f0 hy) sy e2)) ⟨y, dx', xs, rfl, upd_same, l2, Reps.mono (fun b o q => by rw [upd_ne (ne_of_none q sy)]; exact q) r2⟩
end DL
set_option Elab.async false
set_option linter.all false
set_option maxRecDepth 100000
/-! DL6: comprehensions and loops in the forms one uses. -/
namespace DL
open PySem PySem.Spec PyProof.Rows L2
section
variable {F : Fam} {ρw : Rho} {el : Rho → DQ → Prop} {j : Nat}
theorem lc_map (f : D → D) : ∀ (ds : List D) {Q : List D → Prop}, Q (ds.map f) → (∀ d ∈ ds, ∀ Q' : DQ, Q' (f d) → el (ρw.set j (.sh d)) Q') → lcD (.name j) ρw (Ifs.no.D F) el ds Q
  | [], Q, q, _ => q
  | d :: ds, Q, q, h => ⟨_, rfl, fun _ => h d List.mem_cons_self _ (lc_map f ds (Q := fun ys => Q (f d :: ys)) q fun x hx => h x (List.mem_cons_of_mem _ hx)), fun z => nomatch z⟩
theorem lc_rng' (f : Nat → D) (lo : Int) : ∀ (n s : Nat) {Q : List D → Prop}, Q ((List.range' s n).map f) → (∀ i, s ≤ i → i < s + n → ∀ Q' : DQ, Q' (f i) → el (ρw.set j (.sh (.int (lo + i)))) Q') → lcD (.name j) ρw (Ifs.no.D F) el ((List.range' s n).map fun (i : Nat) => D.int (lo + i)) Q
  | 0, s, Q, q, _ => q
  | n + 1, s, Q, q, h => by
    rw [List.range'_succ, List.map_cons] at q
    rw [List.range'_succ, List.map_cons]
    exact ⟨_, rfl, fun _ => h s (Nat.le_refl _) (by omega) _ (lc_rng' f lo n (s + 1) (Q := fun ys => Q (f s :: ys)) q fun i h1 h2 => h i (by omega) (by omega)), fun z => nomatch z⟩
theorem lc_rng (f : Nat → D) (lo : Int) (n : Nat) {Q : List D → Prop} (q : Q ((List.range n).map f)) (h : ∀ i, i < n → ∀ Q' : DQ, Q' (f i) → el (ρw.set j (.sh (.int (lo + i)))) Q') : lcD (.name j) ρw (Ifs.no.D F) el (rngD lo n) Q := by
  unfold rngD
  rw [List.range_eq_range'] at q ⊢
  exact lc_rng' f lo n 0 q fun i _ h2 => h i (by omega)
/-- .. where a test lets it -/
theorem lc_if (p : D → Bool) (f : D → D) {c : Expr} : ∀ (ds : List D) {Q : List D → Prop}, Q ((ds.filter p).map f) → (∀ d ∈ ds, ∀ Q' : Bool → Prop, Q' (p d) → Dt F (ρw.set j (.sh d)) c Q') → (∀ d ∈ ds, p d = true → ∀ Q' : DQ, Q' (f d) → el (ρw.set j (.sh d)) Q') → lcD (.name j) ρw ((Ifs.one c).D F) el ds Q
  | [], Q, q, _, _ => q
  | d :: ds, Q, q, ht, h => by
    refine ⟨_, rfl, ht d List.mem_cons_self _ ⟨fun e => ?_, fun e => ?_⟩⟩
    · rw [List.filter_cons, if_pos e, List.map_cons] at q
      exact h d List.mem_cons_self e _ (lc_if p f ds (Q := fun ys => Q (f d :: ys)) q (fun x hx => ht x (List.mem_cons_of_mem _ hx)) fun x hx => h x (List.mem_cons_of_mem _ hx))
    · rw [List.filter_cons, if_neg (by rw [e]; exact Bool.false_ne_true)] at q
      exact lc_if p f ds q (fun x hx => ht x (List.mem_cons_of_mem _ hx)) fun x hx => h x (List.mem_cons_of_mem _ hx)
/-- a for with an invariant over (what is walked so far) -/
theorem for_inv {body : List Stmt} {t : TgD} {k : Ek} (I : List D → Rho → Prop) : ∀ (ds pre : List D) {ρ : Rho}, I pre ρ →
    (∀ pre d post ρ, pre ++ d :: post = pre ++ d :: post → I pre ρ → ∃ ρ', setN t d ρ = some ρ' ∧ Db F ρ' body { nx := I (pre ++ [d]), rt := k.rt, bk := k.nx, ct := I (pre ++ [d]) }) → (∀ ρ, I (pre ++ ds) ρ → k.nx ρ) → forD F body t k ds ρ
  | [], pre, ρ, h0, _, hd => by
    rw [List.append_nil] at hd
    exact hd ρ h0
  | d :: ds, pre, ρ, h0, hs, hd => by
    obtain ⟨ρ', e, b⟩ := hs pre d ds ρ rfl h0
    have go : ∀ ρ, I (pre ++ [d]) ρ → forD F body t k ds ρ := fun ρ h => for_inv I ds (pre ++ [d]) h hs fun ρ h => hd ρ (by rw [List.append_assoc] at h; exact h)
    exact ⟨ρ', e, b.mono go (fun _ q => q) (fun _ q => q) go⟩
/-- .. by the turn's number -/
theorem for_at {body : List Stmt} {t : TgD} {k : Ek} {ds : List D} {ρ : Rho} (I : Nat → Rho → Prop) (h0 : I 0 ρ) (hs : ∀ i d ρ, ds[i]? = some d → I i ρ → ∃ ρ', setN t d ρ = some ρ' ∧ Db F ρ' body { nx := I (i + 1), rt := k.rt, bk := k.nx, ct := I (i + 1) }) (hd : ∀ ρ, I ds.length ρ → k.nx ρ) : forD F body t k ds ρ := by
  have go : ∀ (n i : Nat) (ρ : Rho), i + n = ds.length → I i ρ → forD F body t k (ds.drop i) ρ := by
    intro n
    induction n with
    | zero =>
      intro i ρ e h
      have e : i = ds.length := by omega
      subst e
      rw [List.drop_length]
      exact hd ρ h
    | succ n ih =>
      intro i ρ e h
      have hi : i < ds.length := by omega
      rw [List.drop_eq_getElem_cons hi]
      obtain ⟨ρ', e1, b⟩ := hs i ds[i] ρ (List.getElem?_eq_getElem hi) h
      exact ⟨ρ', e1, b.mono (fun ρ h => ih (i + 1) ρ (by omega) h) (fun _ q => q) (fun _ q => q) fun ρ h => ih (i + 1) ρ (by omega) h⟩
  have q := go ds.length 0 ρ (by omega) h0
  rw [List.drop_zero] at q
  exact q
/-- over a range -/
theorem for_rng {body : List Stmt} {j : Nat} {k : Ek} {lo : Int} {n : Nat} {ρ : Rho} (I : Nat → Rho → Prop) (h0 : I 0 ρ) (hs : ∀ i ρ, i < n → I i ρ → Db F (ρ.set j (.sh (.int (lo + i)))) body { nx := I (i + 1), rt := k.rt, bk := k.nx, ct := I (i + 1) }) (hd : ∀ ρ, I n ρ → k.nx ρ) : forD F body (.name j) k (rngD lo n) ρ := by
  refine for_at I h0 (fun i d ρ e h => ?_) (fun ρ h => hd ρ ?_)
  · obtain ⟨hi, rfl⟩ := rngD_get e
    exact ⟨_, rfl, hs i ρ hi h⟩
  · unfold rngD at h
    rw [List.length_map, List.length_range] at h
    exact h
end
theorem rngD_len (lo : Int) (n : Nat) : (rngD lo n).length = n := by
  unfold rngD
  rw [List.length_map, List.length_range]
end DL
set_option Elab.async false
set_option linter.all false
set_option maxRecDepth 100000
/-! DL7: enumerate over a list or a tuple at data. -/
namespace PySem
open Sem (wp)
open AutoSeq1 (wpAny_loadPart')
theorem meets_enumerate_newT (l : Addr) (o : Obj) (items : Array Value) (hs : Heap → Prop) (hh : ∀ h, hs h → h.IsTuple l items) :
    Meets (Builtin.«enumerate.__new__» ⟨[.type "enumerate", .ref l], []⟩) (fun _ R s => hs s.heap ∧
      R (.ok (.ret (.ref (s.heap.push { cls := .type "tuple_iterator", data := .fields #[.ref l, .int 0 0] }).objs.size)))
        { s with heap := (s.heap.push { cls := .type "tuple_iterator", data := .fields #[.ref l, .int 0 0] }).push { cls := .type "enumerate", data := .fields #[.none, .bool false, .ref s.heap.objs.size, rawInt 0, .none, .none] } }) :=
  .of_wp fun prog w A R s h => by
    obtain ⟨hp, g, d, tk, os⟩ := s; obtain ⟨hl, h⟩ := h
    have hsub := sub_enumerate
    have hL : Heap.IsTuple (Shared.heap ⟨hp, g, d, tk, os⟩) l items := hh _ hl
    obtain ⟨o, hl, _⟩ := id hL
    wp_walk using wpAny_loadPart' hl
    refine wpAny_stack_any fun st => wpAny_pure ?_
    split
    · rename_i c _ _ _ _ _
      cases (c == Value.type "enumerate")
      · wp_walk using wpAny_loadPart' hl, wpAny_pyIter_tuple hL
        exact ⟨_, rfl, h⟩
      · wp_walk using wpAny_loadPart' hl, wpAny_pyIter_tuple hL
        exact ⟨_, rfl, h⟩
    · wp_walk using wpAny_loadPart' hl, wpAny_pyIter_tuple hL
      exact ⟨_, rfl, h⟩
section
variable {prog : Program} {w : World} {A : Around} {E : Value → Shared → Prop} {s : Shared}
theorem call_enumerate_tuple {l : Addr} {items : Array Value} {Q : Value → Shared → Prop} (hL : s.heap.IsTuple l items)
    (h : ∀ h', IsEnum h' (s.heap.objs.size + 1) s.heap.objs.size 0 .none → h'.IsTupleIter s.heap.objs.size l 0 → h'.objs.size = s.heap.objs.size + 2 →
      (∀ b o, s.heap.get? b = some o → h'.get? b = some o) → Q (.ref (s.heap.objs.size + 1)) { s with heap := h' }) :
    wpAny (model prog w) A (call (.type "enumerate") [.ref l]) Q E s := by
  refine callType_new F.called_enumerate (by decide) (F.typeCall_enumerate_1 _) (F.newCall_enumerate_1 _) (fun obj => F.args_object_init_2 obj _) F.entry_enumerate_new
    (meets_enumerate_newT l { cls := .none, data := .fields #[] } items (fun h => h.IsTuple l items) (fun _ h => h)) ⟨hL, ?_⟩
  have hz : (s.heap.push { cls := .type "tuple_iterator", data := .fields #[.ref l, .int 0 0] }).objs.size = s.heap.objs.size + 1 := Heap.size_push ..
  show _ ∧ _
  rw [hz]
  have he : IsEnum ((s.heap.push { cls := .type "tuple_iterator", data := .fields #[.ref l, .int 0 0] }).push
      { cls := .type "enumerate", data := .fields #[.none, .bool false, .ref s.heap.objs.size, rawInt 0, .none, .none] }) (s.heap.objs.size + 1) s.heap.objs.size 0 .none := by
    have := Heap.get?_push_size (s.heap.push { cls := .type "tuple_iterator", data := .fields #[.ref l, .int 0 0] })
      (o := { cls := .type "enumerate", data := .fields #[.none, .bool false, .ref s.heap.objs.size, rawInt 0, .none, .none] }) rfl
    rw [hz] at this; exact this
  refine ⟨⟨_, he, rfl⟩, h _ he ⟨_, Heap.get?_push_of_some _ (Heap.get?_push_size _ rfl), rfl, rfl⟩ (by rw [Heap.size_push, hz]) fun b o x => Heap.get?_push_of_some _ (Heap.get?_push_of_some _ x)⟩
end
end PySem
namespace DL
open PySem PySem.Spec PyProof.Rows L2
/-- the tuple at a, numbered, the pairs new -/
def IteT (K : PySem.W.Frag) (a : Addr) : It :=
  ⟨fun i H => ∃ (xs : List V) (x : V), SqT K H a xs ∧ xs[i]? = some x, fun i H v H' => ∃ T x, v = .ref T ∧ H T = none ∧ H' = upd H T (.tup [.int (i : Nat), x]) ∧ ∀ xs, SqT K H a xs → xs[i]? = some x, fun i H => ∃ xs : List V, SqT K H a xs ∧ xs.length = i⟩
theorem turn_enumT {P : Program} {w : World} {K : PySem.W.Frag} {elts : List Expr} {kk : Nat} {tpos : Pos} (a e it : Addr) :
    Turn P w K (.Tuple elts kk tpos) (IteT K a) [e, it] e (fun i h => (∃ old, IsEnum h e it ((i : Nat) : Int) old) ∧ h.IsTupleIter it a i ∧ e ≠ it) where
  mem := by simp
  obj := fun i h st b hb => by
    obtain ⟨⟨old, he⟩, ⟨o, ho, hc, hd⟩, _⟩ := st
    have e' : b = e ∨ b = it := by simpa using hb
    rcases e' with z | z
    · rw [z]; exact ⟨_, he, fun v q => nomatch q⟩
    · rw [z]; exact ⟨o, ho, fun v q => by rw [hd] at q; cases q⟩
  keep := fun i h h' st k => let ⟨⟨old, he⟩, ⟨o, ho, r⟩, hne⟩ := st; ⟨⟨old, k e (by simp) _ he⟩, ⟨o, k it (by simp) o ho, r⟩, hne⟩
  item := by
    intro X hP hw hK hc i pins s σ H E I hf st hg
    subst hP hw hK
    obtain ⟨⟨old, he⟩, hit, hne⟩ := st
    obtain ⟨xs, x, hq, hx⟩ := hg
    obtain ⟨its, rv, p, hz⟩ := I.tuple hq
    obtain ⟨u, hu, ru⟩ := rv.get hx
    have hel : e < s.heap.objs.size := Heap.lt_size he
    have hil : it < s.heap.objs.size := by obtain ⟨_, q, _⟩ := hit; exact Heap.lt_size q
    have nai : a ≠ it := fun z => by
      obtain ⟨o1, e1, c1, _⟩ := hit
      obtain ⟨o2, e2, c2, _⟩ := p
      rw [z, e1] at e2
      cases e2
      rw [c1] at c2
      exact absurd c2 (by decide)
    have nae : e ∉ [it, a] := fun z => by
      rcases List.mem_cons.mp z with z | z
      · exact hne z
      · have z := List.mem_singleton.mp z
        obtain ⟨o2, e2, c2, _⟩ := p
        rw [← z, show s.heap.get? e = _ from he] at e2
        cases e2
        exact absurd (show Value.type "enumerate" = Value.type "tuple" from c2) (by decide)
    have st0 : s.heap.IsTuple a its.toArray := p
    refine wpAny_pyNext_enum_itemD (Draws.tuple (prog := X.prog) (w := X.w) (show X.A.in1.handled = none from I.ok.hd hc) it a nai its.toArray) he ⟨hit, st0⟩ (by have l := (List.getElem?_eq_some_iff.mp hu).1; simpa using l) hne nae fun x' h' tk hx' ho hst' hT hsz hk => ?_
    have ex : x' = u := by
      have q : its[i]? = some x' := by simpa using hx'
      rw [hu] at q
      exact (Option.some.inj q).symm
    subst ex
    refine ⟨_, rfl, wpAny_letOwnedTupleGo_enum (s := { s with heap := h', toks := tk + 1 }) ho fun h'' he' sb => ?_⟩
    have hT2 : h''.get? s.heap.objs.size = some { cls := .type "tuple", data := .seq #[.int i tk, x'] } := (sb.2 _ (Nat.ne_of_gt hel)).trans hT
    have new : ObjOk X.prog X.w (upd H s.heap.objs.size (.tup [.int (i : Nat), x])) h'' s.heap.objs.size (.tup [.int (i : Nat), x]) :=
      ⟨by show 2 ≤ sizeLine; decide, [.int i tk, x'], .cons ⟨_, rfl⟩ (.cons ru .nil), ⟨_, hT2, rfl, _, rfl⟩⟩
    have I1 : Inv X pins σ (upd H s.heap.objs.size (.tup [.int (i : Nat), x])) { s with heap := h'', toks := tk + 1 } :=
      I.turnedNew (ch := [e, it]) (fun b ob hb q => (sb.2 b (fun z => hb (by simp [z]))).trans (hk b ob (fun z => hb (by simp [z])) (fun z => hb (by simp [z])) q)) hf (Nat.le_refl _) new
    refine ⟨.ref s.heap.objs.size, _, I1, rfl, ⟨_, x, rfl, I.hok.fresh (Nat.le_refl _), rfl, fun ys hy => by rw [I.tuple_inj hy hq]; exact hx⟩, ⟨⟨x', ?_⟩, (by obtain ⟨⟨o, e1, r⟩, _⟩ := hst'; exact ⟨o, (sb.2 it (Ne.symm hne)).trans e1, r⟩), hne⟩, fun b hb => ?_⟩
    · have e1 : ((i + 1 : Nat) : Int) = (i : Int) + 1 := by omega
      rw [e1]; exact he'
    · have hb' : b < s.heap.objs.size := by
        have e' : b = e ∨ b = it := by simpa using hb
        rcases e' with z | z
        · rw [z]; exact hel
        · rw [z]; exact hil
      rw [upd_ne (Nat.ne_of_lt hb')]
      exact (hf b hb).1
  done := by
    intro X hP hw hK hc i pins s σ H E I hf st hg
    subst hP hw hK
    obtain ⟨⟨old, he⟩, hit, hne⟩ := st
    obtain ⟨xs, hq, hx⟩ := hg
    obtain ⟨its, rv, p, hz⟩ := I.tuple hq
    obtain ⟨f0, f1, f2, f3, f4, f5⟩ := hf it (by simp)
    have hl := rv.length
    have st0 : s.heap.IsTuple a its.toArray := p
    have nai : a ≠ it := fun z => by
      obtain ⟨o1, e1, c1, _⟩ := hit
      obtain ⟨o2, e2, c2, _⟩ := p
      rw [z, e1] at e2
      cases e2
      rw [c1] at c2
      exact absurd c2 (by decide)
    have en : its.toArray.size = i := by simp; omega
    subst en
    exact wpAny_pyNext_enum_endD (Draws.tuple (prog := X.prog) (w := X.w) (show X.A.in1.handled = none from I.ok.hd hc) it a nai its.toArray) he ⟨hit, st0⟩ fun h' eb => ⟨rfl, I.turned (t' := s.toks) (fun b o hb q => eb b o hb q) f0 f1 f3 f4 f5⟩
  self := fun A i s Q E st h => let ⟨⟨_, he⟩, _⟩ := st; wpAny_pyIter_enum he h
/-- enumerate(e), by its value -/
def iEnumS (K : PySem.W.Frag) (ta : TA) : TI := fun σ H R => ta σ H fun vs H1 => ∃ a, vs = [.ref a] ∧ (((∃ xs, SqL K H1 a xs) ∧ R (Ite K a) H1) ∨ ((∃ xs, SqT K H1 a xs) ∧ R (IteT K a) H1))
theorem pi_enumS {X : Cx} {e : Expr} {ta : TA} {p pos tpos : Pos} {elts : List Expr} {kk : Nat} (hg : Gl X "enumerate") (hm : X.mg "enumerate" = none) (ha : PA X [e] ta) (hs : starEach [e] X.env = [(false, eval e X.env)] := by rfl) :
    PI X (.Tuple elts kk tpos) (.Call (.Name "enumerate" p) [e] [] pos) (iEnumS X.K ta) := by
  refine ⟨fun pins s σ H R I h => ?_⟩
  refine Call_ (ld_blt I hg hm boot_enumerate (PyProof.Rows.callWith_type1 (thn (ha.run pos pins s σ H _ I h) fun us s1 ⟨vs, H1, I1, r1, q1⟩ => ?_) hs rfl))
  obtain ⟨a, ex, q1⟩ := q1
  subst ex
  have fpo : ∀ b ∈ [s1.heap.objs.size + 1, s1.heap.objs.size], FpOk X pins H1 b := fun b hb => by
    have e' : b = s1.heap.objs.size + 1 ∨ b = s1.heap.objs.size := by simpa using hb
    have hle : s1.heap.objs.size ≤ b := by
      rcases e' with z | z
      · rw [z]; exact Nat.le_add_right _ _
      · rw [z]; exact Nat.le_refl _
    exact I1.fpOk hle (I1.hok.fresh hle)
  cases r1 with
  | cons r rr =>
    cases rr
    cases r
    rcases q1 with ⟨⟨xs, hq⟩, q⟩ | ⟨⟨xs, hq⟩, q⟩
    · obtain ⟨its, rv, p', hz⟩ := I1.list hq
      refine call_enumerate_list p'.isList fun h' he hit hsz hk => wpAny_pyIter_enum he ?_
      have I2 : Inv X pins σ H1 { s1 with heap := h' } := I1.kept (t' := s1.toks) hk
      exact ⟨s1.heap.objs.size + 1, [s1.heap.objs.size + 1, s1.heap.objs.size], _, _, H1, rfl, I2, turn_enum a (s1.heap.objs.size + 1) s1.heap.objs.size, ⟨⟨.none, he⟩, hit, Nat.succ_ne_self _⟩, fpo, q⟩
    · obtain ⟨its, rv, p', hz⟩ := I1.tuple hq
      refine call_enumerate_tuple (show s1.heap.IsTuple a its.toArray from p') fun h' he hit hsz hk => wpAny_pyIter_enum he ?_
      have I2 : Inv X pins σ H1 { s1 with heap := h' } := I1.kept (t' := s1.toks) hk
      exact ⟨s1.heap.objs.size + 1, [s1.heap.objs.size + 1, s1.heap.objs.size], _, _, H1, rfl, I2, turn_enumT a (s1.heap.objs.size + 1) s1.heap.objs.size, ⟨⟨.none, he⟩, hit, Nat.succ_ne_self _⟩, fpo, q⟩
/-- the items numbered -/
def enumD (l : List D) : List D := l.zipIdx.map fun (p : D × Nat) => D.tup [.int p.2, p.1]
theorem enumD_get {l : List D} {i : Nat} {d : D} (h : (enumD l)[i]? = some d) : ∃ x, l[i]? = some x ∧ d = .tup [.int i, x] := by
  unfold enumD at h
  rw [List.getElem?_map, List.getElem?_zipIdx] at h
  cases e : l[i]? with
  | none => rw [e] at h; cases h
  | some x =>
    rw [e] at h
    simp at h
    exact ⟨x, rfl, h.symm⟩
theorem enumD_len (l : List D) : (enumD l).length = l.length := by
  unfold enumD
  rw [List.length_map, List.length_zipIdx]
def dEnum (ds : List D) (Q : List D → Prop) : Prop := match ds with
  | [.lst l] => Q (enumD l)
  | [.tup l] => Q (enumD l)
  | _ => False
theorem pair_new {K : PySem.W.Frag} {E : Ent} {S2 H2 : Hp} {T : Addr} {d d' : D} {v v' : V} (w2 : Wld K E S2 H2) (hT : H2 T = none) (r : Rep K E.hd S2 d v) (r' : Rep K E.hd S2 d' v') : ∃ S3, Go K E S2 H2 S3 (upd H2 T (.tup [v, v'])) ∧ Rep K E.hd S3 (.tup [d, d']) (.ref T) := by
  have g := w2.new (o := .tup [v, v']) hT
  exact ⟨_, g, T, [v, v'], rfl, .of upd_same, v, [v'], rfl, r.mono g.s, v', [], rfl, r'.mono g.s, rfl⟩
theorem Di.enum {F : Fam} {ρ : Rho} {e : Expr} {Q : List D → Prop} {p pos tpos : Pos} {elts : List Expr} {kk : Nat} (hm : ∀ i, (F.cx i).mg "enumerate" = none) (h : Da F ρ [e] fun ds => dEnum ds Q) (hg : ∀ i, Gl (F.cx i) "enumerate" := by intro _; rfl) (hs : ∀ i, starEach [e] (F.cx i).env = [(false, eval e (F.cx i).env)] := by intro _; rfl) :
    Di F ρ (.Tuple elts kk tpos) (.Call (.Name "enumerate" p) [e] [] pos) Q := fun i =>
  Di1.of (pi_enumS (hg i) (hm i) pa_all (hs i)) fun E S H σ R g k => h.all g fun ds vs S1 H1 q g1 r => by
    unfold dEnum at q
    split at q
    · obtain ⟨v, rfl, ⟨p, xs, rfl, e1, r1⟩⟩ := Reps.one r
      refine ⟨p, rfl, .inl ⟨⟨xs, .of (g1.w.sh _ _ e1)⟩, k _ _ S1 H1 q g1 fun S2 H2 w2 s2 => ?_⟩⟩
      have eH : SqL (F.cx i).K H2 p xs := .of (w2.sh _ _ (s2 _ _ e1))
      refine ⟨fun n d hd => ?_, xs, eH, by rw [enumD_len, Reps.length r1]; exact Nat.le_refl _⟩
      obtain ⟨x, hx, rfl⟩ := enumD_get hd
      obtain ⟨v, a1, a2⟩ := Reps.get r1 hx
      refine ⟨⟨xs, v, eH, a1⟩, fun y H3 hy => ?_⟩
      obtain ⟨T, x', rfl, hT, rfl, hy⟩ := hy
      have ex : x' = v := Option.some.inj ((hy xs eH).symm.trans a1)
      subst ex
      exact pair_new w2 hT rfl (a2.mono s2)
    · obtain ⟨v, rfl, ⟨p, xs, rfl, e1, r1⟩⟩ := Reps.one r
      refine ⟨p, rfl, .inr ⟨⟨xs, Same.sqT g1.w.sh e1⟩, k _ _ S1 H1 q g1 fun S2 H2 w2 s2 => ?_⟩⟩
      have eH : SqT (F.cx i).K H2 p xs := Same.sqT (s2.trans w2.sh) e1
      refine ⟨fun n d hd => ?_, xs, eH, by rw [enumD_len, Reps.length r1]⟩
      obtain ⟨x, hx, rfl⟩ := enumD_get hd
      obtain ⟨v, a1, a2⟩ := Reps.get r1 hx
      refine ⟨⟨xs, v, eH, a1⟩, fun y H3 hy => ?_⟩
      obtain ⟨T, x', rfl, hT, rfl, hy⟩ := hy
      have ex : x' = v := Option.some.inj ((hy xs eH).symm.trans a1)
      subst ex
      exact pair_new w2 hT rfl (a2.mono s2)
    · exact q.elim
end DL
set_option Elab.async false
set_option linter.all false
set_option maxRecDepth 100000
/-! DL8: whole numbers that are not negative. -/
namespace DL
open PySem PySem.Spec PyProof.Rows L2
section
variable {Q : DQ} {a b : Nat}
theorem addN (h : Q (.int ((a + b : Nat) : Int))) : dAdd (.int a) (.int b) Q := by
  show Q (.int ((a : Int) + (b : Int)))
  rw [← Int.natCast_add]
  exact h
theorem subN (hl : b ≤ a) (h : Q (.int ((a - b : Nat) : Int))) : dSub (.int a) (.int b) Q := by
  show Q (.int ((a : Int) - (b : Int)))
  rw [← Int.ofNat_sub hl]
  exact h
theorem MulOk.l (h : a < 2 ^ 64) : MulOk (a : Int) (b : Int) := .inl (.inl ⟨by omega, by omega⟩)
theorem MulOk.r (h : b < 2 ^ 64) : MulOk (a : Int) (b : Int) := .inl (.inr ⟨by omega, by omega⟩)
theorem mulN (hl : a < 2 ^ 64 ∨ b < 2 ^ 64) (h : Q (.int ((a * b : Nat) : Int))) : dMul (.int a) (.int b) Q := by
  refine ⟨hl.elim MulOk.l MulOk.r, ?_⟩
  show Q (.int ((a : Int) * (b : Int)))
  rw [← Int.natCast_mul]
  exact h
theorem andN (h : Q (.int ((a &&& b : Nat) : Int))) : dAnd (.int a) (.int b) Q := by
  show Q (.int (Builtin.bitAnd (a : Int) (b : Int)))
  rw [PySem.W.os_band]
  exact h
theorem orN (h : Q (.int ((a ||| b : Nat) : Int))) : dOr (.int a) (.int b) Q := by
  show Q (.int (Builtin.bitOr (a : Int) (b : Int)))
  rw [Bits.bitOr_pp (Int.natCast_nonneg _) (Int.natCast_nonneg _)]
  exact h
theorem xorN (h : Q (.int ((a ^^^ b : Nat) : Int))) : dXor (.int a) (.int b) Q := by
  show Q (.int (Builtin.bitXor (a : Int) (b : Int)))
  rw [Bits.bitXor_pp (Int.natCast_nonneg _) (Int.natCast_nonneg _)]
  exact h
theorem modN (hl : 0 < b) (h : Q (.int ((a % b : Nat) : Int))) : dMod (.int a) (.int b) Q := by
  refine ⟨by omega, ?_⟩
  show Q (.int ((a : Int) % (b : Int)))
  rw [← Int.natCast_emod]
  exact h
theorem fdivN (hl : 0 < b) (hb : b < 1073741824) (h : Q (.int ((a / b : Nat) : Int))) : dFdiv (.int a) (.int b) Q := by
  refine ⟨⟨by omega, by omega⟩, ?_⟩
  show Q (.int ((a : Int) / (b : Int)))
  rw [← Int.natCast_ediv]
  exact h
theorem shrN (h : Q (.int ((a >>> b : Nat) : Int))) : dShr (.int a) (.int b) Q := by
  refine ⟨Int.natCast_nonneg _, ?_⟩
  have e : (a : Int) / 2 ^ ((b : Int)).toNat = ((a >>> b : Nat) : Int) := by
    rw [Int.toNat_natCast, Nat.shiftRight_eq_div_pow, Int.natCast_ediv, Int.natCast_pow]
    rfl
  show Q (.int ((a : Int) / 2 ^ ((b : Int)).toNat))
  rw [e]
  exact h
theorem shlN (n : Nat) (ha : a < 2 ^ n) (hb : n + b ≤ 134217728) (h : Q (.int ((a * 2 ^ b : Nat) : Int))) : dShl (.int a) (.int b) Q := by
  refine ⟨⟨Int.natCast_nonneg _, n, by rw [Int.natAbs_natCast]; exact ha, by rw [Int.toNat_natCast]; exact hb⟩, ?_⟩
  have e : (a : Int) * 2 ^ ((b : Int)).toNat = ((a * 2 ^ b : Nat) : Int) := by
    rw [Int.toNat_natCast, Int.natCast_mul, Int.natCast_pow]
    rfl
  show Q (.int ((a : Int) * 2 ^ ((b : Int)).toNat))
  rw [e]
  exact h
theorem shl1 (hb : b ≤ 134217727) (h : Q (.int ((2 ^ b : Nat) : Int))) : dShl (.int ((1 : Nat) : Int)) (.int b) Q := by
  refine shlN 1 (by decide) (by omega) ?_
  rw [Nat.one_mul]
  exact h
theorem powN (hb : b ≤ 1000000) (ha : a < 2 ^ 64) (h : Q (.int ((a ^ b : Nat) : Int))) : dPow (.int a) (.int b) Q := by
  refine ⟨⟨Int.natCast_nonneg _, by omega, by rw [Int.natAbs_natCast]; exact ha⟩, ?_⟩
  show Q (.int ((a : Int) ^ ((b : Int)).toNat))
  rw [Int.toNat_natCast, ← Int.natCast_pow]
  exact h
theorem ltN (h : Q (.bl (decide (a < b)))) : dLt (.int a) (.int b) Q := by
  show Q (.bl (decide ((a : Int) < (b : Int))))
  rw [decide_eq_decide.mpr (Int.ofNat_lt (n := a) (m := b))]
  exact h
theorem leN (h : Q (.bl (decide (a ≤ b)))) : dLe (.int a) (.int b) Q := by
  show Q (.bl (decide ((a : Int) ≤ (b : Int))))
  rw [decide_eq_decide.mpr (Int.ofNat_le (n := b) (m := a))]
  exact h
theorem gtN (h : Q (.bl (decide (b < a)))) : dGt (.int a) (.int b) Q := by
  show Q (.bl (decide ((b : Int) < (a : Int))))
  rw [decide_eq_decide.mpr (Int.ofNat_lt (n := b) (m := a))]
  exact h
theorem geN (h : Q (.bl (decide (b ≤ a)))) : dGe (.int a) (.int b) Q := by
  show Q (.bl (decide ((b : Int) ≤ (a : Int))))
  rw [decide_eq_decide.mpr (Int.ofNat_le (n := a) (m := b))]
  exact h
theorem eqN (h : Q (.bl (decide (a = b)))) : dEq (.int a) (.int b) Q := by
  show Q (.bl (decide ((a : Int) = (b : Int))))
  rw [decide_eq_decide.mpr (Int.natCast_inj (m := a) (n := b))]
  exact h
theorem neN (h : Q (.bl (!decide (a = b)))) : dNe (.int a) (.int b) Q := by
  show Q (.bl (!decide ((a : Int) = (b : Int))))
  rw [decide_eq_decide.mpr (Int.natCast_inj (m := a) (n := b))]
  exact h
theorem ixL {l : List D} {d : D} (e : l[a]? = some d) (h : Q d) : dIx (.lst l) (.int a) Q := ⟨Int.natCast_nonneg _, d, by rw [Int.toNat_natCast]; exact e, h⟩
theorem ixT {l : List D} {d : D} (e : l[a]? = some d) (h : Q d) : dIx (.tup l) (.int a) Q := ⟨Int.natCast_nonneg _, d, by rw [Int.toNat_natCast]; exact e, h⟩
theorem absN (h : Q (.int a)) : dAbs [.int a] Q := by
  show Q (.int (if (a : Int) < 0 then -(a : Int) else a))
  rw [if_neg (by omega)]
  exact h
theorem minN (h : Q (.int ((min a b : Nat) : Int))) : dMin2 [.int a, .int b] Q := by
  show Q (.int (if (b : Int) < (a : Int) then (b : Int) else a))
  by_cases z : b < a
  · rw [if_pos (by omega)]
    rw [Nat.min_eq_right (by omega)] at h
    exact h
  · rw [if_neg (by omega)]
    rw [Nat.min_eq_left (by omega)] at h
    exact h
theorem intB {t : Bool} (h : Q (.int ((if t = true then 1 else 0 : Nat) : Int))) : dInt [.bl t] Q := by
  cases t <;> exact h
end
theorem De.nat {F : Fam} {ρ : Rho} {pos : Pos} {Q : DQ} {n : Nat} {j} (hq : Q (.int (n : Int))) : De F ρ (.Constant (.int (n : Int)) j pos) Q := De.int hq
def natsD (n : Nat) : List D := (List.range n).map fun (i : Nat) => D.int (i : Int)
theorem natsD_len (n : Nat) : (natsD n).length = n := by
  unfold natsD
  rw [List.length_map, List.length_range]
theorem rngD_zero (n : Nat) : rngD 0 n = natsD n := by
  unfold rngD natsD
  simp only [Int.zero_add]
theorem rngN {n : Nat} {Q : List D → Prop} (hl : n < 2 ^ 62) (h : Q (natsD n)) : dRange [.int (n : Int)] Q := by
  refine ⟨by omega, by omega, ?_⟩
  rw [Int.toNat_natCast, rngD_zero]
  exact h
section
variable {F : Fam} {ρw : Rho} {el : Rho → DQ → Prop} {j : Nat}
theorem lc_nats (f : Nat → D) (n : Nat) {Q : List D → Prop} (q : Q ((List.range n).map f)) (h : ∀ i, i < n → ∀ Q' : DQ, Q' (f i) → el (ρw.set j (.sh (.int (i : Int)))) Q') : lcD (.name j) ρw (Ifs.no.D F) el (natsD n) Q := by
  rw [← rngD_zero]
  refine lc_rng f 0 n q fun i hi Q' hq => ?_
  rw [Int.zero_add]
  exact h i hi Q' hq
theorem for_nats {body : List Stmt} {k : Ek} {n : Nat} {ρ : Rho} (I : Nat → Rho → Prop) (h0 : I 0 ρ) (hs : ∀ i ρ, i < n → I i ρ → Db F (ρ.set j (.sh (.int (i : Int)))) body { nx := I (i + 1), rt := k.rt, bk := k.nx, ct := I (i + 1) }) (hd : ∀ ρ, I n ρ → k.nx ρ) : forD F body (.name j) k (natsD n) ρ := by
  rw [← rngD_zero]
  refine for_rng I h0 (fun i ρ hi h => ?_) hd
  rw [Int.zero_add]
  exact hs i ρ hi h
end
end DL
set_option Elab.async false
set_option linter.all false
set_option maxRecDepth 100000
/-! DL9: comprehensions by place. -/
namespace DL
open PySem PySem.Spec PyProof.Rows L2
section
variable {F : Fam} {ρw : Rho} {el : Rho → DQ → Prop} {t : TgD}
theorem lc_idx' (f : Nat → D) : ∀ (ds : List D) (s : Nat) {Q : List D → Prop}, Q ((List.range' s ds.length).map f) → (∀ i d, ds[i]? = some d → ∃ ρ', setN t d ρw = some ρ' ∧ ∀ Q' : DQ, Q' (f (s + i)) → el ρ' Q') → lcD t ρw (Ifs.no.D F) el ds Q
  | [], s, Q, q, _ => q
  | d :: ds, s, Q, q, h => by
    rw [List.length_cons, List.range'_succ, List.map_cons] at q
    obtain ⟨ρ', e, k⟩ := h 0 d rfl
    refine ⟨ρ', e, fun _ => k _ (lc_idx' f ds (s + 1) (Q := fun ys => Q (f s :: ys)) q fun i d' hd => ?_), fun z => nomatch z⟩
    obtain ⟨ρ2, e2, k2⟩ := h (i + 1) d' (by simpa using hd)
    refine ⟨ρ2, e2, ?_⟩
    rw [show s + 1 + i = s + (i + 1) by omega]
    exact k2
theorem lc_idx (f : Nat → D) (ds : List D) {Q : List D → Prop} (q : Q ((List.range ds.length).map f)) (h : ∀ i d, ds[i]? = some d → ∃ ρ', setN t d ρw = some ρ' ∧ ∀ Q' : DQ, Q' (f i) → el ρ' Q') : lcD t ρw (Ifs.no.D F) el ds Q := by
  refine lc_idx' f ds 0 ?_ fun i d hd => ?_
  · rw [← List.range_eq_range']
    exact q
  · rw [Nat.zero_add]
    exact h i d hd
/-- over numbered items -/
theorem lc_enum (f : Nat → D) {j j' : Nat} (l : List D) {Q : List D → Prop} (q : Q ((List.range l.length).map f)) (h : ∀ i d, l[i]? = some d → ∀ Q' : DQ, Q' (f i) → el ((ρw.set j (.sh (.int (i : Int)))).set j' (.sh d)) Q') : lcD (.names [j, j']) ρw (Ifs.no.D F) el (enumD l) Q := by
  refine lc_idx f _ (by rw [enumD_len]; exact q) fun i d hd => ?_
  obtain ⟨x, hx, rfl⟩ := enumD_get hd
  exact ⟨_, rfl, h i x hx⟩
end
theorem all_true (n : Nat) {Q : DQ} (h : Q (.bl true)) : dAll [.lst ((List.range n).map fun _ => D.bl true)] Q := by
  refine ⟨List.replicate n true, ?_, ?_⟩
  · rw [List.map_const', List.map_replicate, List.length_range]
  · rw [List.all_replicate]
    simpa using h
end DL
set_option Elab.async false
set_option linter.all false
set_option maxRecDepth 100000
/-! DLA: the driver's helpers: names told apart, comprehensions over mapped lists. -/
namespace DL
open PySem PySem.Spec PyProof.Rows L2
def nodupB : List Str → Bool
  | [] => true
  | x :: l => !l.contains x && nodupB l
theorem nodup_of : ∀ {l : List Str}, nodupB l = true → l.Nodup
  | [], _ => List.nodup_nil
  | x :: l, h => by
    unfold nodupB at h
    rw [Bool.and_eq_true] at h
    refine List.nodup_cons.mpr ⟨fun z => ?_, nodup_of h.2⟩
    rw [List.contains_iff_mem.mpr z] at h
    exact absurd h.1 (by decide)
section
variable {F : Fam} {ρ ρw : Rho} {el : Rho → DQ → Prop} {j : Nat} {k : Ek} {e : Expr} {pos : Pos}
/-- name = e -/
theorem Ds.set' (j : Nat) {x : Str} {pos' : Pos} (h : Dl F ρ e fun s => k.nx (ρ.set j s)) (hi : ∀ i, (F.cx i).N[j]? = some x := by intro _; with_unfolding_all rfl) (hN : ∀ i, (F.cx i).N.Nodup := by intro _; exact nodup_of (by with_unfolding_all rfl)) (hx : ∀ i, Loc (F.cx i).env.scope x := by intro _; first | exact Or.inl (by with_unfolding_all rfl) | exact Or.inr (by with_unfolding_all rfl))
    (hs : ∀ i, swapsWith e (some (.Name x pos')) pos.line (F.cx i).env = pure false := by intro _; with_unfolding_all rfl) (hf : ∀ i, (F.cx i).fn x = true ∨ (F.cx i).env.scope.names.lookup x = some .local := by intro _; first | exact Or.inl (by with_unfolding_all rfl) | exact Or.inr (by with_unfolding_all rfl)) :
    Ds F ρ (.Assign [.Name x pos'] e pos) k := Ds.set j hN h hi hx hs hf
/-- over a list that stands for another -/
theorem lc_mapG {α : Type} (g f : α → D) (l : List α) {Q : List D → Prop} (q : Q (l.map f)) (h : ∀ d ∈ l, ∀ Q' : DQ, Q' (f d) → el (ρw.set j (.sh (g d))) Q') : lcD (.name j) ρw (Ifs.no.D F) el (l.map g) Q := by
  induction l generalizing Q with
  | nil => exact q
  | cons d ds ih => exact ⟨_, rfl, fun _ => h d List.mem_cons_self _ (ih (Q := fun ys => Q (f d :: ys)) q fun x hx => h x (List.mem_cons_of_mem _ hx)), fun z => nomatch z⟩
theorem lc_ifG {α : Type} (g f : α → D) (p : α → Bool) {c : Expr} (l : List α) {Q : List D → Prop} (q : Q ((l.filter p).map f)) (ht : ∀ d ∈ l, ∀ Q' : Bool → Prop, Q' (p d) → Dt F (ρw.set j (.sh (g d))) c Q') (h : ∀ d ∈ l, p d = true → ∀ Q' : DQ, Q' (f d) → el (ρw.set j (.sh (g d))) Q') : lcD (.name j) ρw ((Ifs.one c).D F) el (l.map g) Q := by
  induction l generalizing Q with
  | nil => exact q
  | cons d ds ih =>
    refine ⟨_, rfl, ht d List.mem_cons_self _ ⟨fun e => ?_, fun e => ?_⟩⟩
    · rw [List.filter_cons, if_pos e, List.map_cons] at q
      exact h d List.mem_cons_self e _ (ih (Q := fun ys => Q (f d :: ys)) q (fun x hx => ht x (List.mem_cons_of_mem _ hx)) fun x hx => h x (List.mem_cons_of_mem _ hx))
    · rw [List.filter_cons, if_neg (by rw [e]; exact Bool.false_ne_true)] at q
      exact ih q (fun x hx => ht x (List.mem_cons_of_mem _ hx)) fun x hx => h x (List.mem_cons_of_mem _ hx)
/-- a for over a list that stands for another: the invariant by what is done -/
theorem for_mapG {α : Type} (g : α → D) {body : List Stmt} (I : List α → Rho → Prop) (l : List α) (h0 : I [] ρ) (hs : ∀ pre d post ρ, pre ++ d :: post = l → I pre ρ → Db F (ρ.set j (.sh (g d))) body { nx := I (pre ++ [d]), rt := k.rt, bk := k.nx, ct := I (pre ++ [d]) }) (hd : ∀ ρ, I l ρ → k.nx ρ) : forD F body (.name j) k (l.map g) ρ := by
  have go : ∀ (r pre : List α) (ρ : Rho), pre ++ r = l → I pre ρ → forD F body (.name j) k (r.map g) ρ := by
    intro r
    induction r with
    | nil =>
      intro pre ρ e h
      rw [List.append_nil] at e
      subst e
      exact hd ρ h
    | cons d r ih =>
      intro pre ρ e h
      have e2 : pre ++ [d] ++ r = l := by rw [List.append_assoc]; exact e
      exact ⟨_, rfl, (hs pre d r ρ e h).mono (fun ρ h => ih _ ρ e2 h) (fun _ q => q) (fun _ q => q) fun ρ h => ih _ ρ e2 h⟩
  exact go l [] ρ rfl h0
end
section
variable {F : Fam} {ρ : Rho} {e : Expr} {es : List Expr} {Q : DQ} {Qb : Bool → Prop} {Qa : List D → Prop} {k : Ek} {st : Stmt} {sts : List Stmt}
theorem De.bw (j : Nat) {l : List D} (hj : ρ[j]? = some (Sl.ow (.lst l))) (h : De F (ρ.set j (.sh (.lst l))) e fun d => d.flat = true ∧ Q d) : De F ρ e Q := De.borrow j hj h
theorem Ds.fz (j : Nat) {l : List D} (hj : ρ[j]? = some (Sl.ow (.lst l))) (h : Ds F (ρ.set j (.sh (.lst l))) st k) : Ds F ρ st k := Ds.freeze j hj h
theorem Db.fz (j : Nat) {l : List D} (hj : ρ[j]? = some (Sl.ow (.lst l))) (h : Db F (ρ.set j (.sh (.lst l))) sts k) : Db F ρ sts k := Db.freeze j hj h
/-- an expression whose value is known -/
theorem De.val (v : D) (h : De F ρ e fun d => d = v) (k : Q v) : De F ρ e Q := h.mono fun d q => by
  have q : d = v := q
  rw [q]
  exact k
theorem Dt.truthB {a b : Expr} {op : Operator} {pos : Pos} (h : De F ρ (.BinOp a op b pos) fun d => dTru d Qb) (he : ∀ i, ∀ whole, isTrue (.BinOp a op b pos) (F.cx i).env whole = (do let v ← whole; standAt (Expr.BinOp a op b pos).pos; holding [v] (truthy v)) := by intro _ _; rfl) : Dt F ρ (.BinOp a op b pos) Qb := Dt.truth h he
theorem idDe (h : De F ρ e Q) : De F ρ e Q := h
theorem idDt (h : Dt F ρ e Qb) : Dt F ρ e Qb := h
theorem idDa (h : Da F ρ es Qa) : Da F ρ es Qa := h
theorem idDs (h : Ds F ρ st k) : Ds F ρ st k := h
theorem idDb (h : Db F ρ sts k) : Db F ρ sts k := h
theorem idDi {tg : Expr} {Qi : List D → Prop} (h : Di F ρ tg e Qi) : Di F ρ tg e Qi := h
end
section
variable {Q : DQ} {Qi : List D → Prop} {α : Type} {f : α → D} {l : List D} {a : List α} {x y : Str}
theorem lenTm (h : Q (.int (a.length : Nat))) : dLen [.tup (a.map f)] Q := by
  show Q (.int ((a.map f).length : Nat))
  rw [List.length_map]
  exact h
theorem lenLm (h : Q (.int (a.length : Nat))) : dLen [.lst (a.map f)] Q := by
  show Q (.int ((a.map f).length : Nat))
  rw [List.length_map]
  exact h
theorem lenT (h : Q (.int (l.length : Nat))) : dLen [.tup l] Q := h
theorem lenL (h : Q (.int (l.length : Nat))) : dLen [.lst l] Q := h
theorem tupL (h : Q (.tup l)) : dTuple [.lst l] Q := h
theorem tupT (h : Q (.tup l)) : dTuple [.tup l] Q := h
theorem lstL (h : Q (.lst l)) : dList [.lst l] Q := h
theorem lstT (h : Q (.lst l)) : dList [.tup l] Q := h
theorem itmL (h : Qi l) : dItems (.lst l) Qi := h
theorem itmT (h : Qi l) : dItems (.tup l) Qi := h
theorem enmL (h : Qi (enumD l)) : dEnum [.lst l] Qi := h
theorem enmT (h : Qi (enumD l)) : dEnum [.tup l] Qi := h
theorem eqS (h : Q (.bl (decide (x = y)))) : dEq (.str x) (.str y) Q := h
theorem neS (h : Q (.bl (!decide (x = y)))) : dNe (.str x) (.str y) Q := h
theorem addL {m : List D} (hs : l.length + m.length ≤ sizeLine) (h : Q (.lst (l ++ m))) : dAdd (.lst l) (.lst m) Q := ⟨hs, h⟩
theorem addT {m : List D} (hs : l.length + m.length ≤ sizeLine) (h : Q (.tup (l ++ m))) : dAdd (.tup l) (.tup m) Q := ⟨hs, h⟩
end
end DL
set_option Elab.async false
set_option linter.all false
set_option maxRecDepth 100000
/-! DLB: xs[::-1], list(x) as an own list, two items stored at once, a test that reads what is own. -/
namespace DL
open PySem PySem.Spec PyProof.Rows L2
section
variable {F : Fam} {ρ : Rho} {e a b b' : Expr} {es : List Expr} {Q : DQ} {k : Ek} {pos : Pos}
def dRev (x : D) (Q : DQ) : Prop := match x with
  | .lst l => Q (.lst l.reverse)
  | _ => False
theorem Reps.rev {K : PySem.W.Frag} {hd : Option Addr} {S : Hp} : ∀ {l : List D} {xs : List V}, Reps K hd S l xs → Reps K hd S l.reverse xs.reverse
  | [], _, h => by
    have h : _ = [] := h
    rw [h]
    exact rfl
  | d :: ds, _, h => by
    obtain ⟨x, r, h1, h2, h3⟩ := h
    rw [h1, List.reverse_cons, List.reverse_cons]
    exact Reps.app (Reps.rev h3) (Reps.cons h2 Reps.nil)
theorem De.rev {j : Nat} {p1 p2 p3 : Pos} (h : De F ρ e fun x => dRev x Q) : De F ρ (.Subscript e (.Slice none none (some (.UnaryOp .USub (.Constant (.int 1) j p1) p2)) p3) pos) Q := fun i =>
  De1.of (pe_revL pe_all) fun E S H σ R g k => h.all g fun x v S1 H1 qx g1 rx => by
    unfold dRev at qx
    split at qx
    · obtain ⟨p, xs, rfl, e1, r1⟩ := rx
      refine ⟨p, xs, rfl, .of (g1.w.sh _ _ e1), fun t ht => ?_⟩
      have g2 := g1.w.new (o := .lst xs.reverse) ht
      exact k _ _ _ _ qx (g1.trans g2) ⟨t, _, rfl, upd_same, Reps.mono g2.s (Reps.rev r1)⟩
    · exact qx.elim
theorem revL {l : List D} (h : Q (.lst l.reverse)) : dRev (.lst l) Q := h
def dOwnL (ds : List D) (Q : Sl → Prop) : Prop := match ds with
  | [.lst l] => Q (.ow (.lst l))
  | [.tup l] => Q (.ow (.lst l))
  | _ => False
/-- list(x), own -/
theorem Dl.toLst {p : Pos} {Q : Sl → Prop} (hm : ∀ i, (F.cx i).mg "list" = none) (h : Da F ρ (e :: es) fun ds => dOwnL ds Q) (hg : ∀ i, Gl (F.cx i) "list" := by intro _; rfl) (he : ∀ i, starEach (e :: es) (F.cx i).env = (false, eval e (F.cx i).env) :: starEach es (F.cx i).env := by intro _; rfl) (hpl : ∀ i, (backTo pos (starEach es (F.cx i).env)).any (·.1) = false := by intro _; rfl) :
    Dl F ρ (.Call (.Name "list" p) (e :: es) [] pos) Q := fun i =>
  Dl.of (pe_callTy call_list_of (hg i) (hm i) boot_list pa_all (by decide) (by decide) (he i) (hpl i)) fun E S H σ R g k => h.all g fun ds vs S1 H1 q g1 rr => by
    have fin : ∀ (l : List D) (xs : List V) (t : Addr), Q (.ow (.lst l)) → Reps (F.cx i).K E.hd S1 l xs → H1 t = none → R (.ref t) (upd H1 t (.lst xs)) := fun l xs t q r ht => by
      have g2 := g1.w.fresh (o := .lst xs) ht
      refine k _ _ _ _ q (g1.trans g2) ⟨t, rfl, ?_, g1.w.f0 ht, g1.w.sh.free ht, g1.w.nhd ht, xs, upd_same, r⟩
      cases q : H t with
      | none => rfl
      | some u =>
        rw [g1.h t u q (g1.w.nhd ht)] at ht
        cases ht
    unfold dOwnL at q
    split at q
    · obtain ⟨v, rfl, ⟨p, xs, rfl, e1, r1⟩⟩ := Reps.one rr
      exact ⟨p, xs, rfl, .inl (.of (g1.w.sh _ _ e1)), fun t ht => fin _ _ t q r1 ht⟩
    · obtain ⟨v, rfl, ⟨p, xs, rfl, e1, r1⟩⟩ := Reps.one rr
      exact ⟨p, xs, rfl, .inr (Same.sqT g1.w.sh e1), fun t ht => fin _ _ t q r1 ht⟩
    · exact q.elim
/-- xs[i], ys[j] = e, xs and ys own -/
theorem Ds.setIx2 (j j' : Nat) {x y : Str} {l l' : List D} {px tpos px' tpos' tp : Pos} {kk : Nat} (hjj : j ≠ j') (hj : ρ[j]? = some (Sl.ow (.lst l))) (hj' : ρ[j']? = some (Sl.ow (.lst l')))
    (h : De F ρ e fun d => ∃ d1 d2, d = .tup [d1, d2] ∧ De F ρ b (isI fun n => 0 ≤ n ∧ n < l.length ∧ De F (ρ.set j (.ow (.lst (l.set n.toNat d1)))) b' (isI fun n' => 0 ≤ n' ∧ n' < l'.length ∧ k.nx ((ρ.set j (.ow (.lst (l.set n.toNat d1)))).set j' (.ow (.lst (l'.set n'.toNat d2)))))))
    (hN : ∀ i, (F.cx i).N[j]? = some x := by intro _; rfl) (hv : ∀ i, Vis (F.cx i).env.scope x := by intro _; first | exact Or.inl rfl | exact Or.inr (Or.inl rfl) | exact Or.inr (Or.inr rfl)) (h1 : (x == ("__debug__" : Str)) = false := by decide) (h2 : (x == ("__classdict__" : Str)) = false := by decide)
    (hN' : ∀ i, (F.cx i).N[j']? = some y := by intro _; rfl) (hv' : ∀ i, Vis (F.cx i).env.scope y := by intro _; first | exact Or.inl rfl | exact Or.inr (Or.inl rfl) | exact Or.inr (Or.inr rfl)) (h1' : (y == ("__debug__" : Str)) = false := by decide) (h2' : (y == ("__classdict__" : Str)) = false := by decide)
    (ha : ∀ i v, assign (.Subscript (.Name x px) b tpos) (F.cx i).env v = (do
      let ov ← holding [v] (eval (.Name x px) (F.cx i).env)
      let iv ← holding [v, ov] (eval b (F.cx i).env)
      standAt tpos
      holding [v, ov, iv] (setItem ov iv v)
      release [v, ov, iv] []) := by intro _ _; rfl)
    (ha' : ∀ i v, assign (.Subscript (.Name y px') b' tpos') (F.cx i).env v = (do
      let ov ← holding [v] (eval (.Name y px') (F.cx i).env)
      let iv ← holding [v, ov] (eval b' (F.cx i).env)
      standAt tpos'
      holding [v, ov, iv] (setItem ov iv v)
      release [v, ov, iv] []) := by intro _ _; rfl)
    (hn : ∀ i, (assignEach [.Subscript (.Name x px) b tpos, .Subscript (.Name y px') b' tpos'] (F.cx i).env).length = 2 := by intro _; rfl) (hst : ∀ i, (assignEach [.Subscript (.Name x px) b tpos, .Subscript (.Name y px') b' tpos'] (F.cx i).env).findIdx? (·.1) = none := by intro _; rfl)
    (hc1 : ∀ i, (assignEach [.Subscript (.Name x px) b tpos, .Subscript (.Name y px') b' tpos'] (F.cx i).env).map (·.2) = assign (.Subscript (.Name x px) b tpos) (F.cx i).env :: (assignEach [.Subscript (.Name y px') b' tpos'] (F.cx i).env).map (·.2) := by intro _; rfl)
    (hc2 : ∀ i, (assignEach [.Subscript (.Name y px') b' tpos'] (F.cx i).env).map (·.2) = assign (.Subscript (.Name y px') b' tpos') (F.cx i).env :: (assignEach [] (F.cx i).env).map (·.2) := by intro _; rfl)
    (hs : ∀ i, swapsWithSole [.Tuple [.Subscript (.Name x px) b tpos, .Subscript (.Name y px') b' tpos'] kk tp] e pos.line (F.cx i).env = pure false := by intro _; rfl) (hw : ∀ i, swappedStores [.Tuple [.Subscript (.Name x px) b tpos, .Subscript (.Name y px') b' tpos'] kk tp] e (F.cx i).env = pure none := by intro _; rfl)
    (hh : ∀ i, (assignEach [.Tuple [.Subscript (.Name x px) b tpos, .Subscript (.Name y px') b' tpos'] kk tp] (F.cx i).env).map (·.2) = [assign (.Tuple [.Subscript (.Name x px) b tpos, .Subscript (.Name y px') b' tpos'] kk tp) (F.cx i).env] := by intro _; rfl) :
    Ds F ρ (.Assign [.Tuple [.Subscript (.Name x px) b tpos, .Subscript (.Name y px') b' tpos'] kk tp] e pos) k := fun i =>
  Ds1.of (ps_asg pe_all (pg_tup (F.calm i) (pgs_cons (pg_sub (pe_var (hN i) (hv i) h1 h2) pe_all set_list (ha i)) (pgs_cons (pg_sub (pe_var (hN' i) (hv' i) h1' h2') pe_all set_list (ha' i)) pgs_nil (hc2 i)) (hc1 i)) (hn i) (hst i)) (hs i) (hw i) (hh i)) fun E S H σ D' g q => by
    refine h.all g fun d v S1 H1 qd g1 r => ?_
    obtain ⟨d1, d2, rfl, qd⟩ := qd
    obtain ⟨t, ts, rfl, et, rt⟩ := r
    obtain ⟨v1, v2, rfl, r1, r2⟩ := Reps.two rt
    refine ⟨t, [v1, v2], rfl, Same.sqT g1.w.sh et, rfl, v1, [v2], rfl, ?_⟩
    obtain ⟨a, hσ, oa⟩ := g.ow j _ hj
    have hσ1 := hσ
    refine ⟨_, hσ, qd.all (g.go g1) fun y u S2 H2 qy g2 ry => ?_⟩
    obtain ⟨n, rfl, n0, nl, qn⟩ := isI_of qy
    have g12 := g1.trans g2
    have oa2 := oa.go g12
    obtain ⟨xs, e2, rx⟩ := oa2.own
    cases (show u = _ from ry)
    have lx := Reps.length rx
    refine ⟨a, xs, n, n.toNat, rfl, rfl, e2, ?_, ?_⟩
    · unfold ixN
      rw [if_pos n0, if_pos (by omega)]
    have gA : EnvOk (F.cx i).K E S2 _ _ σ := (g.go g12).put hj hσ oa2 (o' := .lst (xs.set n.toNat v1)) (ob' := .lst (l.set n.toNat d1)) ⟨xs.set n.toNat v1, upd_same, Reps.set rx (r1.mono g2.s)⟩
    have hj2 : (ρ.set j (Sl.ow (.lst (l.set n.toNat d1))))[j']? = some (Sl.ow (.lst l')) := by rw [List.getElem?_set_ne hjj]; exact hj'
    refine ⟨v2, [], rfl, ?_⟩
    obtain ⟨a', hσ', oa'⟩ := gA.ow j' _ hj2
    refine ⟨_, hσ', qn.all gA fun y2 u2 S3 H3 qy2 g3 ry2 => ?_⟩
    obtain ⟨n2, rfl, n20, n2l, qn2⟩ := isI_of qy2
    have oa3 := oa'.go g3
    obtain ⟨xs2, e3, rx2⟩ := oa3.own
    cases (show u2 = _ from ry2)
    have lx2 := Reps.length rx2
    refine ⟨a', xs2, n2, n2.toNat, rfl, rfl, e3, ?_, ?_⟩
    · unfold ixN
      rw [if_pos n20, if_pos (by omega)]
    refine ⟨rfl, ?_⟩
    exact q.nx _ S3 _ σ qn2 (g12.s.trans g3.s) ((gA.go g3).put hj2 hσ' oa3 ⟨xs2.set n2.toNat v2, upd_same, Reps.set rx2 ((r2.mono g2.s).mono g3.s)⟩)
theorem Dt.bw (j : Nat) {l : List D} {Qb : Bool → Prop} {c : Expr} (hj : ρ[j]? = some (Sl.ow (.lst l))) (h : Dt F (ρ.set j (.sh (.lst l))) c Qb) : Dt F ρ c Qb := fun i =>
  PT.imp (h i) fun σ H R ⟨E, S, g, k⟩ => by
    obtain ⟨S', s, g'⟩ := g.freeze hj rfl
    refine ⟨E, S', g', fun d S2 H2 q g2 => k d S H2 q ?_⟩
    have sh : Same S H2 := s.trans (g2.s.trans g2.w.sh)
    refine ⟨Same.refl _, g2.h, fun b o e n => (by rw [n] at e; cases e), sh, g.w.s0, fun a ha => ?_, g.w.nh, g2.w.fr, g.w.nw⟩
    obtain ⟨cells, i', l, m, n, q1, q2, q3⟩ := g2.w.hand a ha
    obtain ⟨cells0, i0, l0, m0, n0, p1, p2, p3⟩ := g.w.hand a ha
    have e0 := (s.trans g2.s) _ _ p2
    rw [q2] at e0
    refine ⟨cells, i', l, m, n, q1, ?_, q3⟩
    rw [p2, ← e0]
end
end DL
set_option Elab.async false
set_option linter.all false
set_option maxRecDepth 100000
/-! DLC: own dicts: x not in d, d[x], d[x] = v, d.get(x, y), len(d). -/
namespace DL
open PySem PySem.Spec PyProof.Rows L2
/-- what the dict at a holds at y -/
def XGet (X : Cx) (H : Hp) (a : Addr) (y : V) (o : Option V) : Prop :=
  (∃ kvs k, H a = some (.dK kvs) ∧ y = kV k ∧ o = valV kvs k) ∨ ∃ kvs k b, H a = some (dicO X.w a kvs) ∧ NksOk X H kvs ∧ y = .ref b ∧ NkOk X H k b ∧ o = lookN kvs k
def XPut (X : Cx) (H : Hp) (a : Addr) (y v : V) (H' : Hp) : Prop :=
  (∃ kvs k, H a = some (.dK kvs) ∧ y = kV k ∧ kvs.length < sizeLine ∧ H' = upd H a (.dK (putK kvs k v))) ∨
  ∃ kvs k b, H a = some (dicO X.w a kvs) ∧ NksOk X H kvs ∧ y = .ref b ∧ NkOk X H k b ∧ kvs.length < sizeLine ∧ H' = upd H a (dicO X.w a (putN kvs k b v))
def XLen (X : Cx) (H : Hp) (a : Addr) (n : Nat) : Prop :=
  (∃ kvs, H a = some (.dK kvs) ∧ n = kvs.length) ∨ ∃ kvs, H a = some (dicO X.w a kvs) ∧ NksOk X H kvs ∧ n = kvs.length
section
variable {X : Cx} {pins : List (Addr × Obj)} {σ : L2.St} {H : Hp} {s : Shared} {a b : Addr} {y v : V} {u r : Value} {o : Option V} {A : Around} {E : Value → Shared → Prop}
theorem xlen_is (I : Inv X pins σ H s) {n : Nat} (d : XLen X H a n) : s.TypeIs (.ref a) "dict" ∧ (∀ b, Value.ref a = .ref b → ∃ ob, s.heap.get? b = some ob ∧ ob.dict = none) ∧ (a == sysModules) = false := by
  rcases d with ⟨kvs, e, _⟩ | ⟨kvs, e, ks, _⟩
  · obtain ⟨_, hd, vs, _, dd⟩ := dk_of I.hok e
    refine ⟨dd.typeIs, fun b q => ?_, hd⟩
    cases q
    obtain ⟨ob, _, _, h1, h2, _⟩ := dd
    exact ⟨ob, h1, h2.2.1⟩
  · obtain ⟨_, hd, xs, _, dd⟩ := dn_at I e ks
    refine ⟨dd.typeIs, fun b q => ?_, hd⟩
    cases q
    obtain ⟨ob, _, _, h1, h2, _⟩ := dd
    exact ⟨ob, h1, h2.2.1⟩
theorem XGet.len (g : XGet X H a y o) : ∃ n, XLen X H a n := by
  rcases g with ⟨kvs, k, e, ey, l⟩ | ⟨kvs, k, b, e, ks, ey, eb, l⟩
  · exact ⟨_, .inl ⟨kvs, e, rfl⟩⟩
  · exact ⟨_, .inr ⟨kvs, e, ks, rfl⟩⟩
theorem x_getItem {Q : Value → Shared → Prop} (hu : A.units + 9 < cLine) (I : Inv X pins σ H s) (g : XGet X H a y (some v)) (ry : RelV y u) (h : ∀ w' s', Inv X pins σ H s' → RelV v w' → Q w' s') :
    wpAny (model X.prog X.w) A (getItem (.ref a) u) Q E s := by
  rcases g with ⟨kvs, k, e, ey, l⟩ | ⟨kvs, k, b, e, ks, ey, eb, l⟩
  · exact d_getItem (by omega) I (.inl ⟨kvs, k, .inl e, ey, l⟩) ry h
  · subst ey
    cases (show u = Value.ref b from ry)
    exact dn_get hu I e ks eb l.symm h
theorem x_notIn {Q : Value → Shared → Prop} (hu : A.units + 9 < cLine) (I : Inv X pins σ H s) (g : XGet X H a y o) (ry : RelV y u) (h : ∀ s', Inv X pins σ H s' → Q (.bool (!o.isSome)) s') :
    wpAny (model X.prog X.w) A (compareOp .NotIn u (.ref a)) Q E s := by
  rcases g with ⟨kvs, k, e, ey, l⟩ | ⟨kvs, k, b, e, ks, ey, eb, l⟩
  · exact d_notIn (by omega) I (.inl ⟨kvs, k, .inl e, ey, l⟩) ry h
  · subst ey l
    cases (show u = Value.ref b from ry)
    exact dn_in hu I e ks eb h
theorem x_get2 {d : V} {Q : Value → Shared → Prop} (hu : A.units + 9 < cLine) (I : Inv X pins σ H s) (g : XGet X H a y o) (ry : RelV y u) (rd : RelV d r) (h : ∀ w' s', Inv X pins σ H s' → RelV (o.getD d) w' → Q w' s') :
    wpAny (model X.prog X.w) A (call (.builtin "dict.get") [.ref a, u, r]) Q E s := by
  rcases g with ⟨kvs, k, e, ey, l⟩ | ⟨kvs, k, b, e, ks, ey, eb, l⟩
  · exact d_get2 (by omega) I (.inl ⟨kvs, k, .inl e, ey, l⟩) ry rd h
  · subst ey l
    cases (show u = Value.ref b from ry)
    exact dn_getOr hu I e ks eb rd h
theorem x_setItem {H' : Hp} {Q : Unit → Shared → Prop} (hu : A.units + 9 < cLine) (I : Inv X pins σ H s) (g : XPut X H a y v H') (ry : RelV y u) (rv : RelV v r) (h : ∀ s', Inv X pins σ H' s' → Q () s') :
    wpAny (model X.prog X.w) A (setItem (.ref a) u r) Q E s := by
  rcases g with ⟨kvs, k, e, ey, l, eH⟩ | ⟨kvs, k, b, e, ks, ey, eb, l, eH⟩
  · exact d_setItem (by omega) I (.inl ⟨kvs, k, e, ey, l, eH⟩) ry rv h
  · subst ey eH
    cases (show u = Value.ref b from ry)
    exact dn_set hu I e ks eb rv l h
theorem x_len : CallR X (.builtin "len") (fun xs H Q => ∃ a n, xs = [.ref a] ∧ XLen X H a n ∧ Q (.int n) H) := by
  intro pins s σ H xs us Q I r h
  obtain ⟨a, n, rfl, e, q⟩ := h
  obtain ⟨u, rfl, rx⟩ := r.one
  cases rx
  rcases e with ⟨kvs, e, rfl⟩ | ⟨kvs, e, ks, rfl⟩
  · exact d_len I (.inl e) fun t s' I' => ⟨.int kvs.length, H, I', ⟨t, rfl⟩, q⟩
  · obtain ⟨z, hd, xs, rel, dd⟩ := dn_at I e ks
    refine call_len_dictH hd dd (by rw [← rel.len]; rw [sizeLine_eq] at z; omega) ?_
    rw [← rel.len]
    exact ⟨.int kvs.length, H, I.tok _, ⟨_, rfl⟩, q⟩
end
def tXGet (X : Cx) (td ty : TE) : TE := fun σ H Q => td σ H fun x H1 => ty σ H1 fun y H2 => ∃ a v, x = .ref a ∧ XGet X H2 a y (some v) ∧ Q v H2
def tXNotIn (X : Cx) (ty td : TE) : TE := fun σ H Q => ty σ H fun y H1 => td σ H1 fun x H2 => ∃ a o, x = .ref a ∧ XGet X H2 a y o ∧ Q (.bl (!o.isSome)) H2
def sXPut (X : Cx) (td ty tv : TE) : TS := fun D σ H => tv σ H fun v H1 => td σ H1 fun x H2 => ty σ H2 fun y H3 => ∃ a H4, x = .ref a ∧ XPut X H3 a y v H4 ∧ D.nx σ H4
def tXGet2 (X : Cx) (td ty tx : TE) : TE := fun σ H Q => td σ H fun x H1 => ∃ a n, x = .ref a ∧ XLen X H1 a n ∧ ty σ H1 fun y H2 => tx σ H2 fun z H3 => ∃ o, XGet X H3 a y o ∧ Q (o.getD z) H3
section
variable {X : Cx} {o i e f value : Expr} {pos pos' apos cpos : Pos} {td ty tv tx : TE}
theorem pe_xget (hu : X.A.units + 9 < cLine) (ho : PE X o td) (hi : PE X i ty) (hs : NoSl i) : PE X (.Subscript o i pos) (tXGet X td ty) := by
  refine ⟨fun pins s σ H Q I h => ?_⟩
  refine subD_of PySem.F.slot_dict_getitem.lookup hs (thn (ho.run pins s σ H _ I h) fun u s1 ⟨x, H1, I1, rx, q1⟩ => thn (hi.run pins s1 σ H1 _ I1 q1) fun iv s2 ⟨y, H2, I2, ry, a, v, ex, g, q2⟩ => ?_)
  subst ex
  obtain rfl : u = Value.ref a := rx
  obtain ⟨n, l⟩ := g.len
  exact ⟨(xlen_is I2 l).1, x_getItem hu I2 g ry fun w' s3 I3 rw' => ⟨v, H2, I3, rw', q2⟩⟩
theorem pc_xnotin (hu : X.A.units + 9 < cLine) (hi : PE X i ty) (ho : PE X o td) : PC X .NotIn i o (tXNotIn X ty td) := by
  refine ⟨fun pins s σ H Q I h => ?_⟩
  refine thn (hi.run pins s σ H _ I h) fun iv s1 ⟨y, H1, I1, ry, q1⟩ => thn (ho.run pins s1 σ H1 _ I1 q1) fun u s2 ⟨x, H2, I2, rx, a, ov, ex, g, q2⟩ => ?_
  subst ex
  obtain rfl : u = Value.ref a := rx
  exact x_notIn hu I2 g ry fun s3 I3 => ⟨.bl (!ov.isSome), H2, I3, rfl, q2⟩
theorem ps_xput (hu : X.A.units + 9 < cLine) (ho : PE X o td) (hi : PE X i ty) (hv : PE X value tv) (hs : swapsWith value (some (.Subscript o i pos')) pos.line X.env = pure false) :
    PS X (.Assign [.Subscript o i pos'] value pos) (sXPut X td ty tv) := by
  refine ⟨fun pins s σ H D I h => ?_⟩
  refine wpAny_Assign_Subscript (thn (hv.run pins s σ H _ I h) fun r s1 ⟨v, H1, I1, rv, q1⟩ => thn (ho.run pins s1 σ H1 _ I1 q1) fun u s2 ⟨x, H2, I2, rx, q2⟩ => thn (hi.run pins s2 σ H2 _ I2 q2) fun iv s3 ⟨y, H3, I3, ry, a, H4, ex, g, q3⟩ => ?_) hs
  subst ex
  obtain rfl : u = Value.ref a := rx
  exact x_setItem hu I3 g ry rv fun s4 I4 => ⟨σ, H4, I4, q3⟩
theorem pe_xget2 (hu : X.A.units + 9 < cLine) (ho : PE X o td) (he : PE X e ty) (hf : PE X f tx) (m : M2 X o "get" apos e f cpos) : PE X (.Call (.Attribute o "get" apos) [e, f] [] cpos) (tXGet2 X td ty tx) := by
  refine ⟨fun pins s σ H Q I h => ?_⟩
  refine wpAny_Call_method m.base m.few m.line PySem.F.plainAttrs_dict PySem.F.slot_dict_get PySem.F.type_dict_get (thn (ho.run pins s σ H _ I h) fun u s1 ⟨x, H1, I1, rx, a, n, ex, d, q1⟩ => ?_)
  subst ex
  obtain rfl : u = Value.ref a := rx
  obtain ⟨t1, t2, _⟩ := xlen_is I1 d
  refine ⟨t1, t2, ?_⟩
  rw [m.trees]
  refine Calls.callWith_builtin rfl (Calls.evalArgs_plain (Calls.spliced_cons (thn (he.run pins s1 σ H1 _ I1 q1) fun iv s2 ⟨y, H2, I2, ry, q2⟩ =>
    Calls.spliced_cons (thn (hf.run pins s2 σ H2 _ I2 q2) fun fv s3 ⟨z, H3, I3, rz, ov, g, q3⟩ => Calls.spliced_nil ?_))))
  exact x_get2 hu I3 g ry rz fun w' s4 I4 rw' => ⟨_, H3, I4, rw', q3⟩
/-- {}, its keys tuples -/
def tNew (X : Cx) : TE := fun _ H Q => ∀ p, H p = none → Q (.ref p) (upd H p (dicO X.w p []))
theorem pe_new : PE X (.Dict [] [] pos) (tNew X) := ⟨fun pins s σ H Q I h =>
  wpAny_Dict_empty ⟨.ref s.heap.objs.size, _, I.laid (a := s.heap.objs.size) (o := dicO X.w s.heap.objs.size []) (t' := s.toks) (fun _ _ q => Heap.get?_push_of_some _ q) (Nat.le_refl _)
    (dicO_ok (Nat.zero_le _) (beq_eq_false_iff_ne.mpr (Ne.symm (Nat.ne_of_lt I.big))) .nil ⟨_, #[], 0, Heap.get?_push_size _ rfl, ⟨rfl, rfl, rfl⟩, rfl, rfl, List.nodup_nil⟩), rfl, h _ (I.hok.fresh (Nat.le_refl _))⟩⟩
end
/-! ### keys that stand in the heap -/
section
variable {X : Cx} {hd : Option Addr} {S H : Hp}
mutual
theorem nk_is (e : Same S H) {pins : List (Addr × Obj)} {σ : L2.St} {s : Shared} (I : Inv X pins σ H s) : ∀ {d : D} {v : V} {u : Value}, Rep X.K hd S d v → d.isNk = true → RelV v u → NestedIs s.heap d.nk u
  | .non, v, u, r, _, ru => by
    cases (show v = _ from r)
    cases (show u = _ from ru)
    exact .none
  | .bl b, v, u, r, _, ru => by
    cases (show v = _ from r)
    cases (show u = _ from ru)
    exact .bool rfl
  | .int i, v, u, r, _, ru => by
    cases (show v = _ from r)
    obtain ⟨t, rfl⟩ := (show ∃ t, u = Value.int i t from ru)
    exact .int i t
  | .str x, v, u, r, _, ru => by
    cases (show v = _ from r)
    obtain ⟨t, rfl⟩ := (show ∃ t, u = Value.str x t from ru)
    exact .text x t
  | .tup l, v, u, r, h, ru => by
    obtain ⟨a, xs, rfl, q, rr⟩ := r
    cases (show u = _ from ru)
    obtain ⟨its, rv, ⟨o, h1, h2, n, h3⟩, _⟩ := I.tuple (Same.sqT e q)
    exact .tup h1 h2 h3 (by simpa using nks_are e I rr h rv)
  | .lst _, _, _, _, h, _ => nomatch h
  | .ins _ _ _, _, _, _, h, _ => nomatch h
  | .hand, _, _, _, h, _ => nomatch h
  | .raw _, _, _, _, h, _ => nomatch h
  | .vals _, _, _, _, h, _ => nomatch h
  | .frl _, _, _, _, h, _ => nomatch h
theorem nks_are (e : Same S H) {pins : List (Addr × Obj)} {σ : L2.St} {s : Shared} (I : Inv X pins σ H s) : ∀ {l : List D} {xs : List V} {us : List Value}, Reps X.K hd S l xs → D.isNk.allNk l = true → Vals xs us → NestedAll s.heap (nks l) us
  | [], xs, us, r, _, ru => by
    cases (show xs = [] from r)
    cases ru
    exact .nil
  | d :: ds, xs, us, r, h, ru => by
    obtain ⟨x, t, rfl, r1, r2⟩ := r
    cases ru with
    | cons q qs =>
      have h : (d.isNk && D.isNk.allNk ds) = true := h
      rw [Bool.and_eq_true] at h
      exact .cons (nk_is e I r1 h.1 q) (nks_are e I r2 h.2 qs)
end
end
end DL
set_option Elab.async false
set_option linter.all false
set_option maxRecDepth 100000
/-! DLD: own dicts at data. -/
namespace DL
open PySem PySem.Spec PyProof.Rows L2
def keyFor (w : Option World) (k : D) : Prop := match w with
  | none => ∃ i, k = .int i
  | some _ => k.keyT
def WOk (w : Option World) (X : Cx) : Prop := match w with
  | none => True
  | some w => w = X.w
theorem lookD_pos {p : D × D} {r : List (D × D)} {k : NK} (e : p.1.nk = k) : lookD (p :: r) k = some p.2 := by simp [lookD, List.find?_cons, e]
theorem lookD_neg {p : D × D} {r : List (D × D)} {k : NK} (e : ¬ p.1.nk = k) : lookD (p :: r) k = lookD r k := by simp [lookD, List.find?_cons, e]
/-- what is found, as data and as a value -/
def RepO (K : PySem.W.Frag) (hd : Option Addr) (S : Hp) : Option D → Option V → Prop
  | none, none => True
  | some d, some v => Rep K hd S d v
  | _, _ => False
theorem RepO.isSome {K : PySem.W.Frag} {hd : Option Addr} {S : Hp} {o : Option D} {u : Option V} (r : RepO K hd S o u) : o.isSome = u.isSome := by
  cases o <;> cases u <;> first | rfl | exact r.elim
theorem RepO.getD {K : PySem.W.Frag} {hd : Option Addr} {S : Hp} {o : Option D} {u : Option V} {d : D} {v : V} (r : RepO K hd S o u) (rd : Rep K hd S d v) : Rep K hd S (o.getD d) (u.getD v) := by
  cases o <;> cases u <;> first | exact rd | exact r | exact r.elim
section
variable {K : PySem.W.Frag} {hd : Option Addr} {S : Hp}
theorem int_nk {i : Int} {j : Int} : ((D.int i).nk = (D.int j).nk) ↔ ((Sum.inl i : Key) = Sum.inl j) := by
  constructor
  · intro h
    have h : NestedKey.num i = NestedKey.num j := h
    injection h with h
    rw [h]
  · intro h
    injection h with h
    rw [h]
theorem PK.look {kvs : List (D × D)} {q : List (Key × V)} (r : PK K hd S kvs q) (i : Int) : RepO K hd S (lookD kvs (D.int i).nk) (valV q (Sum.inl i)) := by
  induction r with
  | nil => exact True.intro
  | @cons p q ps qs h t ih =>
    obtain ⟨⟨i', e1, e2⟩, r⟩ := h
    by_cases e : p.1.nk = (D.int i).nk
    · rw [lookD_pos e, valV_pos (by rw [e2]; rw [e1] at e; exact int_nk.mp e)]
      exact r
    · rw [lookD_neg e, valV_neg (fun z => e (by rw [e1]; rw [e2] at z; exact int_nk.mpr z))]
      exact ih
theorem PK.put {kvs : List (D × D)} {q : List (Key × V)} (r : PK K hd S kvs q) (i : Int) {d : D} {v : V} (rd : Rep K hd S d v) : PK K hd S (putD kvs (.int i) d) (putK q (Sum.inl i) v) := by
  unfold putD putK
  have e0 := (PK.look r i).isSome
  rw [← valV_any] at e0
  rw [e0]
  clear e0
  split <;> rename_i hc <;> clear hc
  · induction r with
    | nil => exact .nil
    | @cons p q ps qs h t ih =>
      rw [List.map_cons, List.map_cons]
      refine .cons ?_ ih
      obtain ⟨⟨i', e1, e2⟩, r⟩ := h
      by_cases e : p.1.nk = (D.int i).nk
      · rw [if_pos e, if_pos (by rw [e2]; rw [e1] at e; exact int_nk.mp e)]
        exact ⟨⟨i', e1, e2⟩, rd⟩
      · rw [if_neg e, if_neg (fun z => e (by rw [e1]; rw [e2] at z; exact int_nk.mpr z))]
        exact ⟨⟨i', e1, e2⟩, r⟩
  · exact Paired.snoc r ⟨⟨i, rfl, rfl⟩, rd⟩
theorem PN.look {kvs : List (D × D)} {q : List (NK × Addr × V)} (r : PN K hd S kvs q) (k : NK) : RepO K hd S (lookD kvs k) (lookN q k) := by
  induction r with
  | nil => exact True.intro
  | @cons p q ps qs h t ih =>
    obtain ⟨e1, _, _, r⟩ := h
    by_cases e : p.1.nk = k
    · rw [lookD_pos e, lookN_pos (by rw [← e1]; exact e)]
      exact r
    · rw [lookD_neg e, lookN_neg (fun z => e (by rw [e1]; exact z))]
      exact ih
theorem PN.put {kvs : List (D × D)} {q : List (NK × Addr × V)} (r : PN K hd S kvs q) {k d : D} {b : Addr} {v : V} (kk : k.keyT) (rk : Rep K hd S k (.ref b)) (rd : Rep K hd S d v) : PN K hd S (putD kvs k d) (putN q k.nk b v) := by
  unfold putD putN
  rw [(PN.look r k.nk).isSome]
  split <;> rename_i hc <;> clear hc
  · induction r with
    | nil => exact .nil
    | @cons p q ps qs h t ih =>
      rw [List.map_cons, List.map_cons]
      refine .cons ?_ ih
      obtain ⟨e1, e2, e3, r⟩ := h
      by_cases e : p.1.nk = k.nk
      · rw [if_pos e, if_pos (by rw [← e1]; exact e)]
        exact ⟨e1, e2, e3, rd⟩
      · rw [if_neg e, if_neg (fun z => e (by rw [e1]; exact z))]
        exact ⟨e1, e2, e3, r⟩
  · exact Paired.snoc r ⟨rfl, kk, rk, rd⟩
end
/-! ### the own dict, asked and written -/
section
variable {X : Cx} {E : Ent} {S H : Hp} {a : Addr} {w : Option World} {kvs : List (D × D)} {k : D} {v : V}
theorem nks_ok (W : Wld X.K E S H) {q : List (NK × Addr × V)} (r : PN X.K E.hd S kvs q) : NksOk X H q := by
  intro p hp
  induction r with
  | nil => cases hp
  | @cons p' q' ps qs h t ih =>
    rcases List.mem_cons.mp hp with e | hp
    · subst e
      obtain ⟨e1, e2, e3, _⟩ := h
      exact ⟨by rw [← e1]; exact e2.2.2, fun pins σ s I => by rw [← e1]; exact nk_is W.sh I e3 e2.2.1 rfl⟩
    · exact ih hp
theorem keyT_ref {K : PySem.W.Frag} {hd : Option Addr} {S : Hp} (kk : k.keyT) (r : Rep K hd S k v) : ∃ b, v = .ref b := by
  cases k with
  | tup l =>
    obtain ⟨b, xs, e, _⟩ := r
    exact ⟨b, e⟩
  | _ => cases kk.1
theorem own_get (W : Wld X.K E S H) (hw : WOk w X) (o : Own X.K E.hd S H a (.dic w kvs)) (kk : keyFor w k) (r : Rep X.K E.hd S k v) : ∃ u, XGet X H a v u ∧ RepO X.K E.hd S (lookD kvs k.nk) u := by
  cases w with
  | none =>
    obtain ⟨q, e, rq⟩ := o
    obtain ⟨i, rfl⟩ := kk
    cases (show v = _ from r)
    exact ⟨_, .inl ⟨q, Sum.inl i, e, rfl, rfl⟩, rq.look i⟩
  | some w =>
    obtain ⟨q, e, rq⟩ := o
    have hw : w = X.w := hw
    subst hw
    obtain ⟨b, rfl⟩ := keyT_ref kk r
    exact ⟨_, .inr ⟨q, k.nk, b, e, nks_ok W rq, rfl, ⟨kk.2.2, fun pins σ s I => nk_is W.sh I r kk.2.1 rfl⟩, rfl⟩, rq.look k.nk⟩
theorem own_len (W : Wld X.K E S H) (hw : WOk w X) (o : Own X.K E.hd S H a (.dic w kvs)) : XLen X H a kvs.length := by
  cases w with
  | none =>
    obtain ⟨q, e, rq⟩ := o
    exact .inl ⟨q, e, Paired.length rq⟩
  | some w =>
    obtain ⟨q, e, rq⟩ := o
    have hw : w = X.w := hw
    subst hw
    exact .inr ⟨q, e, nks_ok W rq, Paired.length rq⟩
theorem own_put (W : Wld X.K E S H) (hw : WOk w X) (o : Own X.K E.hd S H a (.dic w kvs)) (kk : keyFor w k) (r : Rep X.K E.hd S k v) {d : D} {u : V} (rd : Rep X.K E.hd S d u) (hl : kvs.length < sizeLine) :
    ∃ ob, XPut X H a v u (upd H a ob) ∧ Own X.K E.hd S (upd H a ob) a (.dic w (putD kvs k d)) := by
  cases w with
  | none =>
    obtain ⟨q, e, rq⟩ := o
    obtain ⟨i, rfl⟩ := kk
    cases (show v = _ from r)
    exact ⟨_, .inl ⟨q, Sum.inl i, e, rfl, by rw [← Paired.length rq]; exact hl, rfl⟩, _, upd_same, rq.put i rd⟩
  | some w =>
    obtain ⟨q, e, rq⟩ := o
    have hw : w = X.w := hw
    subst hw
    obtain ⟨b, rfl⟩ := keyT_ref kk r
    exact ⟨_, .inr ⟨q, k.nk, b, e, nks_ok W rq, rfl, ⟨kk.2.2, fun pins σ s I => nk_is W.sh I r kk.2.1 rfl⟩, by rw [← Paired.length rq]; exact hl, rfl⟩, _, upd_same, rq.put kk r rd⟩
end
section
variable {F : Fam} {ρ : Rho} {e f val : Expr} {Q : DQ} {k : Ek} {pos : Pos} {w : Option World} {kvs : List (D × D)}
theorem un9 (i : F.ι) : (F.cx i).A.units + 9 < cLine := by
  have := (F.room i).units
  omega
/-- {}, own -/
theorem Dl.dic {Q : Sl → Prop} (w : Option World) (hw : ∀ i, WOk w (F.cx i)) (h : Q (.ow (.dic w []))) : Dl F ρ (.Dict [] [] pos) Q := fun i => by
  cases w with
  | none => exact Dl.of pe_dnewK fun E S H σ R g k p hp => k _ _ _ _ h (g.w.fresh (o := .dK []) hp) ⟨p, rfl, hp, g.w.f0 hp, g.w.sh.free hp, g.w.nhd hp, [], upd_same, .nil⟩
  | some w =>
    have e : w = (F.cx i).w := hw i
    subst e
    exact Dl.of pe_new fun E S H σ R g k p hp => k _ _ _ _ h (g.w.fresh hp) ⟨p, rfl, hp, g.w.f0 hp, g.w.sh.free hp, g.w.nhd hp, [], upd_same, .nil⟩
/-- e not in d -/
theorem Dt.dnotin (j : Nat) {x : Str} {px : Pos} {Qb : Bool → Prop} (hj : ρ[j]? = some (Sl.ow (.dic w kvs))) (hw : ∀ i, WOk w (F.cx i)) (h : De F ρ e fun k => keyFor w k ∧ Qb (!(lookD kvs k.nk).isSome))
    (hN : ∀ i, (F.cx i).N[j]? = some x := by intro _; with_unfolding_all rfl) (hv : ∀ i, Vis (F.cx i).env.scope x := by intro _; first | exact Or.inl rfl | exact Or.inr (Or.inl rfl) | exact Or.inr (Or.inr rfl)) (h1 : (x == ("__debug__" : Str)) = false := by decide) (h2 : (x == ("__classdict__" : Str)) = false := by decide)
    (hb : behindInMarks .NotIn (.Name x px) = false := by first | exact nobehind _ (by decide) (by decide) | rfl) : Dt F ρ (.Compare e [.NotIn] [.Name x px] pos) Qb := fun i =>
  Dt1.of (pt_cmp (pc_xnotin (un9 i) pe_all (pe_var (hN i) (hv i) h1 h2)) hb) fun E S H σ R g kk => h.all g fun d v S1 H1 q g1 r => by
    obtain ⟨a, hσ, oa⟩ := (g.go g1).ow j _ hj
    obtain ⟨u, xg, ro⟩ := own_get g1.w (hw i) oa.own q.1 r
    refine ⟨_, hσ, a, u, rfl, xg, _, rfl, ?_⟩
    rw [← ro.isSome]
    exact kk _ S1 H1 q.2 g1
/-- d[e] -/
theorem De.dget (j : Nat) {x : Str} {px : Pos} (hj : ρ[j]? = some (Sl.ow (.dic w kvs))) (hw : ∀ i, WOk w (F.cx i)) (h : De F ρ e fun k => keyFor w k ∧ ∃ d, lookD kvs k.nk = some d ∧ Q d)
    (hN : ∀ i, (F.cx i).N[j]? = some x := by intro _; with_unfolding_all rfl) (hv : ∀ i, Vis (F.cx i).env.scope x := by intro _; first | exact Or.inl rfl | exact Or.inr (Or.inl rfl) | exact Or.inr (Or.inr rfl)) (h1 : (x == ("__debug__" : Str)) = false := by decide) (h2 : (x == ("__classdict__" : Str)) = false := by decide)
    (hs : NoSl e := by intro _ _; rfl) : De F ρ (.Subscript (.Name x px) e pos) Q := fun i =>
  De1.of (pe_xget (un9 i) (pe_var (hN i) (hv i) h1 h2) pe_all hs) fun E S H σ R g kk => by
    obtain ⟨a, hσ, oa⟩ := g.ow j _ hj
    refine ⟨_, hσ, h.all g fun d v S1 H1 q g1 r => ?_⟩
    obtain ⟨u, xg, ro⟩ := own_get g1.w (hw i) (oa.go g1).own q.1 r
    obtain ⟨d', e1, qd⟩ := q.2
    rw [e1] at ro
    cases u with
    | none => exact ro.elim
    | some u => exact ⟨a, u, rfl, xg, kk d' u S1 H1 qd g1 ro⟩
/-- d.get(e, f) -/
theorem De.dgetOr (j : Nat) {x : Str} {px apos : Pos} (hj : ρ[j]? = some (Sl.ow (.dic w kvs))) (hw : ∀ i, WOk w (F.cx i)) (h : De F ρ e fun k => De F ρ f fun d => keyFor w k ∧ Q ((lookD kvs k.nk).getD d))
    (hN : ∀ i, (F.cx i).N[j]? = some x := by intro _; with_unfolding_all rfl) (hv : ∀ i, Vis (F.cx i).env.scope x := by intro _; first | exact Or.inl rfl | exact Or.inr (Or.inl rfl) | exact Or.inr (Or.inr rfl)) (h1 : (x == ("__debug__" : Str)) = false := by decide) (h2 : (x == ("__classdict__" : Str)) = false := by decide)
    (m : ∀ i, M2 (F.cx i) (.Name x px) "get" apos e f pos := by intro _; exact ⟨rfl, rfl, rfl, rfl⟩) : De F ρ (.Call (.Attribute (.Name x px) "get" apos) [e, f] [] pos) Q := fun i =>
  De1.of (pe_xget2 (un9 i) (pe_var (hN i) (hv i) h1 h2) pe_all pe_all (m i)) fun E S H σ R g kk => by
    obtain ⟨a, hσ, oa⟩ := g.ow j _ hj
    refine ⟨_, hσ, a, _, rfl, own_len g.w (hw i) oa.own, h.all g fun d v S1 H1 q g1 r => q.all (g.go g1) fun d2 v2 S2 H2 q2 g2 r2 => ?_⟩
    have g12 := g1.trans g2
    obtain ⟨u, xg, ro⟩ := own_get g12.w (hw i) (oa.go g12).own q2.1 (r.mono g2.s)
    exact ⟨u, xg, kk _ _ S2 H2 q2.2 g12 (ro.getD r2)⟩
/-- d[e] = val -/
theorem Ds.dput (j : Nat) {x : Str} {px tpos : Pos} (hj : ρ[j]? = some (Sl.ow (.dic w kvs))) (hw : ∀ i, WOk w (F.cx i)) (h : De F ρ val fun d => De F ρ e fun y => keyFor w y ∧ kvs.length < sizeLine ∧ k.nx (ρ.set j (.ow (.dic w (putD kvs y d)))))
    (hN : ∀ i, (F.cx i).N[j]? = some x := by intro _; with_unfolding_all rfl) (hv : ∀ i, Vis (F.cx i).env.scope x := by intro _; first | exact Or.inl rfl | exact Or.inr (Or.inl rfl) | exact Or.inr (Or.inr rfl)) (h1 : (x == ("__debug__" : Str)) = false := by decide) (h2 : (x == ("__classdict__" : Str)) = false := by decide)
    (hs : ∀ i, swapsWith val (some (.Subscript (.Name x px) e tpos)) pos.line (F.cx i).env = pure false := by intro _; rfl) : Ds F ρ (.Assign [.Subscript (.Name x px) e tpos] val pos) k := fun i =>
  Ds1.of (ps_xput (un9 i) (pe_var (hN i) (hv i) h1 h2) pe_all pe_all (hs i)) fun E S H σ D' g q => by
    obtain ⟨a, hσ, oa⟩ := g.ow j _ hj
    refine h.all g fun d v S1 H1 qd g1 r => ⟨_, hσ, qd.all (g.go g1) fun y u S2 H2 qy g2 ry => ?_⟩
    have g12 := g1.trans g2
    have oa2 := oa.go g12
    obtain ⟨ob, xp, own⟩ := own_put g12.w (hw i) oa2.own qy.1 ry (r.mono g2.s) qy.2.1
    exact ⟨a, _, rfl, xp, q.nx _ S2 _ σ qy.2.2 g12.s ((g.go g12).put hj hσ oa2 own)⟩
/-- len(d) -/
theorem De.dlen (j : Nat) {x : Str} {px p : Pos} (hj : ρ[j]? = some (Sl.ow (.dic w kvs))) (hw : ∀ i, WOk w (F.cx i)) (hm : ∀ i, (F.cx i).mg "len" = none) (h : Q (.int kvs.length))
    (hN : ∀ i, (F.cx i).N[j]? = some x := by intro _; with_unfolding_all rfl) (hv : ∀ i, Vis (F.cx i).env.scope x := by intro _; first | exact Or.inl rfl | exact Or.inr (Or.inl rfl) | exact Or.inr (Or.inr rfl)) (h1 : (x == ("__debug__" : Str)) = false := by decide) (h2 : (x == ("__classdict__" : Str)) = false := by decide)
    (hg : ∀ i, Gl (F.cx i) "len" := by intro _; rfl) (he : ∀ i, starEach [Expr.Name x px] (F.cx i).env = (false, eval (.Name x px) (F.cx i).env) :: starEach [] (F.cx i).env := by intro _; rfl) (hpl : ∀ i, (backTo pos (starEach [] (F.cx i).env)).any (·.1) = false := by intro _; rfl) :
    De F ρ (.Call (.Name "len" p) [.Name x px] [] pos) Q := fun i =>
  De1.of (pe_callB x_len (hg i) (hm i) (by decide +kernel) (pa_cons (pe_var (hN i) (hv i) h1 h2) pa_nil (he i)) (by decide) (by decide) (he i) (hpl i)) fun E S H σ R g kk => by
    obtain ⟨a, hσ, oa⟩ := g.ow j _ hj
    exact ⟨_, hσ, a, _, rfl, own_len g.w (hw i) oa.own, kk _ _ S H h (Go.refl g.w) rfl⟩
end
end DL
set_option Elab.async false
set_option linter.all false
set_option maxRecDepth 100000
/-! DLE: a dict that stands still from here on, its values walked. -/
namespace DL
open PySem PySem.Spec PyProof.Rows L2
/-! ### raw: the values of a frozen dict -/
/-- the frozen dict's values -/
def IsVals (d : Addr) (u : HO) (vs : List V) : Prop := (∃ q : List (Key × V), u = .dK q ∧ vs = q.map (·.2)) ∨ ∃ (w : World) (q : List (NK × Addr × V)), u = dicO w d q ∧ vs = q.map (·.2.2)
theorem paired_at {α β : Type} {R : α → β → Prop} {l : List α} {m : List β} (h : Paired R l m) : ∀ {i : Nat} {x : α}, l[i]? = some x → ∃ y, m[i]? = some y ∧ R x y := by
  induction h with
  | nil => intro i x e; simp at e
  | @cons a b l₁ l₂ r t ih =>
    intro i x e
    cases i with
    | zero =>
      simp only [List.getElem?_cons_zero, Option.some.injEq] at e
      subst e
      exact ⟨b, rfl, r⟩
    | succ i =>
      obtain ⟨y, h1, h2⟩ := ih (by simpa using e)
      exact ⟨y, by simpa using h1, h2⟩
section
variable {X : Cx} {pins : List (Addr × Obj)} {σ : L2.St} {H : Hp} {s : Shared} {d : Addr} {o : Obj} {u : HO} {vs : List V}
theorem frzV (I : Inv X pins σ H s) (h : H d = some (.frz o u)) (hv : IsVals d u vs) :
    (d == sysModules) = false ∧ s.heap.get? d = some o ∧ ∃ (es : Array DictEntry) (ep : Nat), o.data = .dict es ep ∧ s.heap.DictRaw d es ep ∧ es.size = vs.length ∧ ∀ (i : Nat) (x : V), vs[i]? = some x → ∃ hi : i < es.size, RelV x es[i].val := by
  obtain ⟨hg, ob⟩ := I.hok d _ h
  rcases hv with ⟨q, rfl, rfl⟩ | ⟨w, q, rfl, rfl⟩
  · obtain ⟨hs, hgd, hx, es, ep, vs, hdt, hsz, kv, hm⟩ := I.frzK h
    obtain ⟨es', hr, hs', hk⟩ := hm.raw
    obtain ⟨o', e', hx', hd'⟩ := id hr
    rw [hgd] at e'
    cases e'
    obtain ⟨rfl, _⟩ := dict_ep hdt hd'
    refine ⟨hs, hgd, es', ep, hdt, hr, by rw [List.length_map]; exact hsz, fun i x e => ?_⟩
    rw [List.getElem?_map] at e
    obtain ⟨p, hp, hp2⟩ := Option.map_eq_some_iff.mp e
    obtain ⟨k, v⟩ := p
    subst hp2
    obtain ⟨u, hu, ru⟩ := kv_get kv hp
    have hi : i < es'.size := by rw [hsz]; exact (List.getElem?_eq_some_iff.mp hp).1
    refine ⟨hi, ?_⟩
    rw [(hk i hi _ _ hu).2]
    exact ru
  · obtain ⟨⟨z, hs, xs, r, o', es, ep, h1, h2, h3, h4, _⟩, _⟩ := (show ObjOk X.prog X.w H s.heap d (dicO w d q) from ob)
    rw [hg] at h1
    cases h1
    have l1 : es.size = xs.length := by
      rw [← Array.length_toList, h4, List.length_map]
    refine ⟨hs, hg, es, ep, h3, ⟨o, hg, h2, h3⟩, by rw [List.length_map, l1]; exact (Paired.length r).symm, fun i x e => ?_⟩
    rw [List.getElem?_map] at e
    obtain ⟨p, hp, hp2⟩ := Option.map_eq_some_iff.mp e
    subst hp2
    obtain ⟨y, hy, ry⟩ := paired_at r hp
    have hi : i < es.size := by rw [l1]; exact (List.getElem?_eq_some_iff.mp hy).1
    refine ⟨hi, ?_⟩
    have e2 : es[i] = (⟨y.1.hash w, .ref y.2.1, y.2.2⟩ : DictEntry) := by
      have q1 : es.toList[i]? = some es[i] := by rw [Array.getElem?_toList, Array.getElem?_eq_getElem hi]
      rw [h4, List.getElem?_map, hy] at q1
      exact (Option.some.inj q1).symm
    rw [e2]
    exact ry.2.2
end
/-- the values, one after another -/
def Itv (d : Addr) (o : Obj) (u : HO) (vs : List V) : It :=
  ⟨fun i H => H d = some (.frz o u) ∧ i < vs.length, fun i H x H' => H' = H ∧ vs[i]? = some x, fun i H => H d = some (.frz o u) ∧ vs.length ≤ i⟩
theorem turn_v {P : Program} {w : World} {K : PySem.W.Frag} {tg : Expr} {d : Addr} {o : Obj} {u : HO} {vs : List V} {es : Array DictEntry} {ep : Nat} (it : Addr) (hod : o.data = .dict es ep) (hv : IsVals d u vs) :
    Turn P w K tg (Itv d o u vs) [it] it (fun i h => h.IsValIter it d i es.size ep) where
  mem := by simp
  obj := fun i h st b hb => by
    have e : b = it := by simpa using hb
    subst e
    obtain ⟨oi, e, c, dd⟩ := st
    exact ⟨oi, e, fun v z => by rw [dd] at z; cases z⟩
  keep := fun i h h' st k => st.at fun oi e => k it (by simp) oi e
  item := by
    intro X hP hw hK hc i pins s σ H E I hf st hg
    subst hP hw hK
    obtain ⟨hdd, hi⟩ := hg
    obtain ⟨f0, f1, f2, f3, f4, f5⟩ := hf it (by simp)
    obtain ⟨hs, hgd, es', ep', hdt, hr, hsz, hval⟩ := frzV I hdd hv
    obtain ⟨rfl, rfl⟩ := dict_ep hod hdt
    obtain ⟨x, hx⟩ : ∃ x, vs[i]? = some x := ⟨vs[i], List.getElem?_eq_getElem hi⟩
    obtain ⟨hi2, ru⟩ := hval i x hx
    refine wpAny_pyNext_values_item_raw st hr hi2 fun h' st' sb => ?_
    have I1 : Inv X pins σ H { s with heap := h' } := I.turned (t' := s.toks) (fun b ob hb e => (sb.2 b hb).trans e) f0 f1 f3 f4 f5
    obtain ⟨oi, e, c, dd⟩ := id st'
    exact ⟨_, rfl, go_of (s := { s with heap := h' }) e c dd (by decide) ⟨x, H, I1, ru, ⟨rfl, hx⟩, st', fun b hb => (hf b hb).1⟩⟩
  done := by
    intro X hP hw hK hc i pins s σ H E I hf st hg
    subst hP hw hK
    obtain ⟨hdd, hi⟩ := hg
    obtain ⟨f0, f1, f2, f3, f4, f5⟩ := hf it (by simp)
    obtain ⟨hs, hgd, es', ep', hdt, hr, hsz, hval⟩ := frzV I hdd hv
    obtain ⟨rfl, rfl⟩ := dict_ep hod hdt
    exact wpAny_pyNext_values_end_raw (I.ok.hd hc) st hr (by rw [hsz]; exact hi) fun h' eb => ⟨rfl, I.turned (t' := s.toks) (fun b ob hb e => eb b ob hb e) f0 f1 f3 f4 f5⟩
  self := fun A i s Q E st h => wpAny_pyIter_valiter st h
def iV (td : TE) : TI := fun σ H R => td σ H fun x H1 => ∃ d o u vs, x = .ref d ∧ H1 d = some (.frz o u) ∧ IsVals d u vs ∧ R (Itv d o u vs) H1
theorem pi_v {X : Cx} {tg e : Expr} {td : TE} {apos cpos : Pos} (he : PE X e td) (hbase : attributeBase e "values" X.env (eval e X.env) = eval e X.env := by rfl) (hline : (apos.endLine == cpos.line) = true := by rfl) : PI X tg (.Call (.Attribute e "values" apos) [] [] cpos) (iV td) := by
  refine ⟨fun pins s σ H R I h => ?_⟩
  refine wpAny_Call_method (T := "dict") (id := "dict.values") hbase rfl hline F.plainAttrs_dict F.slot_dict_values F.type_dict_values (thn (he.run pins s σ H _ I h) fun u s1 ⟨x, H1, I1, rx, d, o, ho, vs, ex, hd, hv, q⟩ => ?_)
  subst ex
  obtain rfl : u = Value.ref d := rx
  obtain ⟨hs, hgd, es, ep, hdt, hr, hsz, hval⟩ := frzV I1 hd hv
  refine ⟨hr.typeIs, fun b e => ?_, ?_⟩
  · cases e
    obtain ⟨ob, h1, h2, _⟩ := id hr
    exact ⟨ob, h1, h2.2.1⟩
  have I2 : Inv X pins σ H1 { s1 with heap := s1.heap.push { cls := .type "dict_values", data := .fields #[.ref d] } } := I1.kept (t' := s1.toks) fun b ob q => Heap.get?_push_of_some _ q
  have fin : wpAny (model X.prog X.w) X.A (pyIter (.ref s1.heap.objs.size)) (PIE X pins σ tg R) X.xe { s1 with heap := s1.heap.push { cls := .type "dict_values", data := .fields #[.ref d] } } := by
    refine wpAny_pyIter_values_raw (d := d) ⟨_, Heap.get?_push_size _ rfl, rfl, rfl⟩ (hr.push _) (pi_one (tk := s1.toks) I2 _ (turn_v _ hdt hv) ⟨_, Heap.get?_push_size _ rfl, rfl, rfl⟩ q)
  show wpAny _ _ (callWith cpos (.builtin "dict.values") [.ref d] [] []) _ X.xe s1
  exact method_meetsIn F.slot_dict_values F.entry_dict_values rfl (PySem.evalArgs_none ⟨rfl, hr.typeIs, F.args_dict_values_1 _, _, meets_dict_values_raw d hs, ⟨⟨es, ep, hr⟩, fin⟩⟩)
/-! ### at data -/
theorem PK.vals {K : PySem.W.Frag} {hd : Option Addr} {S : Hp} {kvs : List (D × D)} {q : List (Key × V)} (r : PK K hd S kvs q) : Reps K hd S (kvs.map (·.2)) (q.map (·.2)) := by
  induction r with
  | nil => exact Reps.nil
  | cons h t ih => exact Reps.cons h.2 ih
theorem PN.vals {K : PySem.W.Frag} {hd : Option Addr} {S : Hp} {kvs : List (D × D)} {q : List (NK × Addr × V)} (r : PN K hd S kvs q) : Reps K hd S (kvs.map (·.2)) (q.map (·.2.2)) := by
  induction r with
  | nil => exact Reps.nil
  | cons h t ih => exact Reps.cons h.2.2.2 ih
theorem EnvOk.pin {K : PySem.W.Frag} {E : Ent} {S H : Hp} {ρ : Rho} {σ : L2.St} {j : Nat} {w : Option World} {kvs : List (D × D)} (g : EnvOk K E S H ρ σ) (hj : ρ[j]? = some (Sl.ow (.dic w kvs))) :
    ∃ a u, H a = some u ∧ Mut (some u) ∧ ∀ od, ∃ S', Same S S' ∧ EnvOk K E S' (upd H a (.frz od u)) (ρ.set j (.sh (.vals (kvs.map (·.2))))) σ := by
  obtain ⟨a, hσ, oa⟩ := g.ow j _ hj
  have key : ∃ u, H a = some u ∧ Mut (some u) ∧ ∀ od S', Same S S' → S' a = some (.frz od u) → Rep K E.hd S' (.vals (kvs.map (·.2))) (.ref a) := by
    have o := oa.own
    cases w with
    | none =>
      obtain ⟨q, e, r⟩ := o
      exact ⟨_, e, True.intro, fun od S' s e' => ⟨a, od, rfl, .inl ⟨q, e', Reps.mono s r.vals⟩⟩⟩
    | some w =>
      obtain ⟨q, e, r⟩ := o
      exact ⟨_, e, True.intro, fun od S' s e' => ⟨a, od, rfl, .inr ⟨w, q, e', Reps.mono s r.vals⟩⟩⟩
  obtain ⟨u, e, mu, rep⟩ := key
  refine ⟨a, u, e, mu, fun od => ⟨upd S a (.frz od u), ?_, ?_⟩⟩
  · exact fun b x q => by rw [upd_ne (ne_of_none q oa.ns)]; exact q
  have eS : Same S (upd S a (.frz od u)) := fun b x q => by rw [upd_ne (ne_of_none q oa.ns)]; exact q
  have hl := (List.getElem?_eq_some_iff.mp hj).1
  refine ⟨⟨fun b x q => ?_, g.w.s0.trans eS, g.w.hand.same eS (fun b x q q2 => ?_), fun b q => ?_, fun b x q n => ?_, fun b x q n => ?_⟩, by rw [List.length_set]; exact g.len, fun i d q => ?_, fun i o q => ?_, fun i i' o o' b q q' e1 e2 => ?_⟩
  · by_cases z : b = a
    · subst z
      rw [upd_same] at q ⊢
      exact q
    · rw [upd_ne z] at q ⊢
      exact g.w.sh b x q
  · rw [upd_ne (fun z => oa.nh (by rw [← z]; exact q))]
    exact q2
  · rw [upd_ne (fun z => oa.nh (by rw [← z]; exact q))]
    exact g.w.nh b q
  · rw [upd_ne (ne_of_none q oa.f0)]
    exact g.w.fr b x q n
  · by_cases z : b = a
    · rw [z]; exact oa.f0
    · rw [upd_ne z] at q
      exact g.w.nw b x q n
  · by_cases z : j = i
    · subst z
      rw [List.getElem?_set_self hl] at q
      cases q
      exact ⟨_, hσ, rep od _ eS upd_same⟩
    · rw [List.getElem?_set_ne z] at q
      obtain ⟨v, a1, a2⟩ := g.sh i d q
      exact ⟨v, a1, a2.mono eS⟩
  · by_cases z : j = i
    · subst z
      rw [List.getElem?_set_self hl] at q
      cases q
    · rw [List.getElem?_set_ne z] at q
      obtain ⟨b, hb, ob'⟩ := g.ow i o q
      have nb : b ≠ a := fun z2 => by
        subst z2
        exact z (g.dj j i _ _ b hj q hσ hb)
      exact ⟨b, hb, ob'.f0, by rw [upd_ne nb]; exact ob'.ns, ob'.nh, ob'.own.same eS fun u q => by rw [upd_ne nb]; exact q⟩
  · have n1 : j ≠ i := fun z => by
      subst z
      rw [List.getElem?_set_self hl] at q
      cases q
    have n2 : j ≠ i' := fun z => by
      subst z
      rw [List.getElem?_set_self hl] at q'
      cases q'
    rw [List.getElem?_set_ne n1] at q
    rw [List.getElem?_set_ne n2] at q'
    exact g.dj i i' o o' b q q' e1 e2
def tPin (t : TS) : TS := fun D σ H => ∃ d u, H d = some u ∧ Mut (some u) ∧ ∀ od, t D σ (upd H d (.frz od u))
theorem pss_pin {X : Cx} {sts : List Stmt} {t : TS} (h : PSs X sts t) : PSs X sts (tPin t) := by
  refine ⟨fun pins s σ H D I hw => ?_⟩
  obtain ⟨d, u, hd, mu, hw⟩ := hw
  obtain ⟨od, I1⟩ := I.lock hd mu
  exact h.run pins s σ _ _ I1 (hw od)
/-- from here on the dict in slot j stands still -/
theorem Db.pin {F : Fam} {ρ : Rho} {sts : List Stmt} {k : Ek} (j : Nat) {w : Option World} {kvs : List (D × D)} (hj : ρ[j]? = some (Sl.ow (.dic w kvs))) (h : Db F (ρ.set j (.sh (.vals (kvs.map (·.2))))) sts k) : Db F ρ sts k := fun i =>
  PSs.imp (pss_pin (h i)) fun D' σ H ⟨E, S, g, q⟩ => by
    obtain ⟨a, u, e, mu, r⟩ := g.pin hj
    refine ⟨a, u, e, mu, fun od => ?_⟩
    obtain ⟨S', s, g'⟩ := r od
    exact ⟨E, S', g', q.go s⟩
def dVals (x : D) (Q : List D → Prop) : Prop := match x with
  | .vals l => Q l
  | _ => False
theorem Di.vals {F : Fam} {ρ : Rho} {tg e : Expr} {apos cpos : Pos} {Q : List D → Prop} (h : De F ρ e fun x => dVals x Q) (hbase : ∀ i, attributeBase e "values" (F.cx i).env (eval e (F.cx i).env) = eval e (F.cx i).env := by intro _; rfl) (hline : (apos.endLine == cpos.line) = true := by rfl) :
    Di F ρ tg (.Call (.Attribute e "values" apos) [] [] cpos) Q := fun i =>
  Di1.of (pi_v pe_all (hbase i) hline) fun E S H σ R g k => h.all g fun x v S1 H1 qx g1 rx => by
    unfold dVals at qx
    split at qx
    · obtain ⟨a, od, rfl, rx⟩ := rx
      have go : ∀ (u : HO) (vs : List V), S1 a = some (.frz od u) → IsVals a u vs → Reps (F.cx i).K E.hd S1 _ vs → _ := fun u vs hs hv rr => (⟨a, od, u, vs, rfl, g1.w.sh _ _ hs, hv, k _ _ S1 H1 qx g1 fun S2 H2 w2 s2 => ⟨fun n d hd => by
        obtain ⟨v, a1, a2⟩ := Reps.get rr hd
        refine ⟨⟨w2.sh _ _ (s2 _ _ hs), (List.getElem?_eq_some_iff.mp a1).1⟩, fun x H3 hy => ?_⟩
        obtain ⟨rfl, hy⟩ := hy
        rw [a1] at hy
        cases hy
        exact ⟨S2, Go.refl w2, a2.mono s2⟩, w2.sh _ _ (s2 _ _ hs), by rw [Reps.length rr]; exact Nat.le_refl _⟩⟩ : ∃ d o u vs, V.ref a = .ref d ∧ H1 d = some (.frz o u) ∧ IsVals d u vs ∧ R (Itv d o u vs) H1)
      rcases rx with ⟨q, hs, rr⟩ | ⟨w, q, hs, rr⟩
      · exact go _ _ hs (.inl ⟨q, rfl, rfl⟩) rr
      · exact go _ _ hs (.inr ⟨w, q, rfl, rfl⟩) rr
    · exact qx.elim
end DL
set_option Elab.async false
set_option linter.all false
set_option maxRecDepth 100000
/-! DLF: sorted(list of alike data). -/
namespace DL
open PySem PySem.Spec PyProof.Rows L2
/-- data as the model's plain data -/
def D.py : D → PyData
  | .bl b => .bool b
  | .int i => .int i
  | .str x => .str x
  | .tup l => .tuple (pys l)
  | _ => .none
where
  pys : List D → List PyData
  | [] => []
  | d :: ds => D.py d :: pys ds
abbrev pys := D.py.pys
section
variable {X : Cx} {hd : Option Addr} {S H : Hp}
mutual
theorem py_reads (e : Same S H) {pins : List (Addr × Obj)} {σ : L2.St} {s : Shared} (I : Inv X pins σ H s) : ∀ {d : D} {v : V} {u : Value}, Rep X.K hd S d v → d.isNk = true → RelV v u → ∃ as, Reads s.heap u d.py as
  | .non, v, u, r, _, ru => by
    cases (show v = _ from r)
    cases (show u = _ from ru)
    exact ⟨_, .none⟩
  | .bl b, v, u, r, _, ru => by
    cases (show v = _ from r)
    cases (show u = _ from ru)
    exact ⟨_, .bool b⟩
  | .int i, v, u, r, _, ru => by
    cases (show v = _ from r)
    obtain ⟨t, rfl⟩ := (show ∃ t, u = Value.int i t from ru)
    exact ⟨_, .int i t⟩
  | .str x, v, u, r, _, ru => by
    cases (show v = _ from r)
    obtain ⟨t, rfl⟩ := (show ∃ t, u = Value.str x t from ru)
    exact ⟨_, .str x t⟩
  | .tup l, v, u, r, h, ru => by
    obtain ⟨a, xs, rfl, q, rr⟩ := r
    cases (show u = _ from ru)
    obtain ⟨its, rv, ⟨o, h1, h2, n, h3⟩, _⟩ := I.tuple (Same.sqT e q)
    obtain ⟨as, ra⟩ := pys_reads e I rr h rv
    exact ⟨_, .tuple h1 h2 h3 (by simpa using ra)⟩
  | .lst _, _, _, _, h, _ => nomatch h
  | .ins _ _ _, _, _, _, h, _ => nomatch h
  | .hand, _, _, _, h, _ => nomatch h
  | .raw _, _, _, _, h, _ => nomatch h
  | .vals _, _, _, _, h, _ => nomatch h
  | .frl _, _, _, _, h, _ => nomatch h
theorem pys_reads (e : Same S H) {pins : List (Addr × Obj)} {σ : L2.St} {s : Shared} (I : Inv X pins σ H s) : ∀ {l : List D} {xs : List V} {us : List Value}, Reps X.K hd S l xs → D.isNk.allNk l = true → Vals xs us → ∃ as, ReadsAll s.heap us (pys l) as
  | [], xs, us, r, _, ru => by
    cases (show xs = [] from r)
    cases ru
    exact ⟨_, .nil⟩
  | d :: ds, xs, us, r, h, ru => by
    obtain ⟨x, t, rfl, r1, r2⟩ := r
    cases ru with
    | cons q qs =>
      have h : (d.isNk && D.isNk.allNk ds) = true := h
      rw [Bool.and_eq_true] at h
      obtain ⟨as, ra⟩ := py_reads e I r1 h.1 q
      obtain ⟨bs, rb⟩ := pys_reads e I r2 h.2 qs
      exact ⟨_, .cons ra rb⟩
end
end
/-- what is sorted: the values with what they read as -/
def rSortD (X : Cx) : List V → Hp → VK → Prop := fun xs H Q => ∃ (a : Addr) (vs : List V) (ks : List (V × PyData)), xs = [.ref a] ∧ SqL X.K H a vs ∧ ks.map (·.1) = vs ∧ PySem.W.AllAlike (ks.map (·.2)) ∧ PySem.W.Sortable (ks.map (·.2)) ∧ (∀ p ∈ ks, p.2.depth ≤ 8) ∧
  (∀ p ∈ ks, ∀ (pins : List (Addr × Obj)) (σ : L2.St) (s : Shared) (u : Value), Inv X pins σ H s → RelV p.1 u → ∃ as, Reads s.heap u p.2 as) ∧ ∀ t, H t = none → Q (.ref t) (upd H t (.lst ((ks.mergeSort (PySem.W.dataLe false (·.2))).map (·.1))))
theorem each_of {X : Cx} {pins : List (Addr × Obj)} {σ : L2.St} {H : Hp} {s : Shared} (I : Inv X pins σ H s) : ∀ {ks : List (V × PyData)} {its : List Value}, Vals (ks.map (·.1)) its → (∀ p ∈ ks, ∀ (pins : List (Addr × Obj)) (σ : L2.St) (s : Shared) (u : Value), Inv X pins σ H s → RelV p.1 u → ∃ as, Reads s.heap u p.2 as) →
    PySem.W.EachIs (fun u (p : V × PyData) => RelV p.1 u ∧ ∃ as, Reads s.heap u p.2 as) its ks
  | [], _, r, _ => by cases r; exact .nil
  | p :: ks, _, r, h => by
    cases r with
    | cons q qs => exact .cons ⟨q, h p List.mem_cons_self pins σ s _ I q⟩ (each_of I qs fun x hx => h x (List.mem_cons_of_mem _ hx))
theorem each_vals : ∀ {ks : List (V × PyData)} {out : List Value}, PySem.W.EachIs (fun u (p : V × PyData) => RelV p.1 u) out ks → Vals (ks.map (·.1)) out
  | _, _, .nil => .nil
  | _, _, .cons h t => .cons h (each_vals t)
theorem each_map {α β γ : Type} {R : α → γ → Prop} (f : β → γ) : ∀ {as : List α} {bs : List β}, PySem.W.EachIs (fun a b => R a (f b)) as bs → PySem.W.EachIs R as (bs.map f)
  | _, _, .nil => .nil
  | _, _, .cons h t => .cons h (each_map f t)
theorem cr_sortD {X : Cx} (hu : X.A.units + 40 < cLine) : CallR X (.builtin "sorted") (rSortD X) := by
  intro pins s σ H xs us Q I r h
  obtain ⟨a, vs, ks, rfl, hs, rfl, hal, hsk, hdp, hrd, q⟩ := h
  obtain ⟨its, rv, hl, hz⟩ := I.list hs
  obtain ⟨u, rfl, ru⟩ := r.one
  obtain rfl : u = Value.ref a := ru
  have ez := each_of I rv hrd
  have hlen : its.length ≤ sizeLine := by rw [← rv.length]; exact hz
  have hk6 : ∀ b o, s.heap.get? b = some o → (PySem.W.sortingHeap (PySem.W.copyHeap s.heap its) (s.heap.objs.size + 1) its).get? b = some o := fun b o e => PySem.W.sorting_copy_old e
  have e6 : PySem.W.EachIs (fun v (p : V × PyData) => ∃ as, Reads (PySem.W.sortingHeap (PySem.W.copyHeap s.heap its) (s.heap.objs.size + 1) its) v p.2 as) its ks := ez.mono fun v p q => by
    obtain ⟨as, ra⟩ := q.2
    exact ⟨as, PyProof.Rows.Reads.keeps hk6 ra⟩
  have e7 := each_map (R := fun v d => ∃ as, Reads (PySem.W.sortingHeap (PySem.W.copyHeap s.heap its) (s.heap.objs.size + 1) its) v d as) (fun p : V × PyData => p.2) e6
  refine PySem.W.sorted_vals hl.isList (PySem.W.SortsAt.data e7 hal hsk fun d hd => ?_) hlen ?_
  · obtain ⟨p, hp, rfl⟩ := List.mem_map.mp hd
    have := hdp p hp
    rw [Around.in1_units, Around.in1_units]
    omega
  · have eo := PySem.W.sortVals_each (rev := false) (κ := PySem.W.dataKind (PySem.W.sortingHeap (PySem.W.copyHeap s.heap its) (s.heap.objs.size + 1) its) (ks.map (·.2))) (fun p : V × PyData => PySem.W.keyToks p.2) (ez.mono fun v p q => q.1) (PySem.W.each_of_map (fun p : V × PyData => p.2) (PySem.W.each_keys hal e7))
    generalize PySem.W.sortVals _ false its its = out at eo ⊢
    have ev := each_vals eo
    obtain ⟨ep, he'⟩ := PyProof.Rows.sortedAll_at s.heap its out.toArray
    refine ⟨.ref _, upd H (s.heap.objs.size + 1) (.lst _), I.laid (t' := s.toks) (fun _ _ => PyProof.Rows.sortedAll_old) (Nat.le_succ _) ⟨?_, out, ep, ev, he'⟩, rfl, q _ (I.hok.fresh (Nat.le_succ _))⟩
    rw [List.length_map, (List.mergeSort_perm _ _).length_eq]
    rw [List.length_map] at hz
    exact hz
/-! ### at data -/
def leD : D → D → Bool := PySem.W.dataLe false D.py
def sortD (l : List D) : List D := l.mergeSort leD
def dSortD (ds : List D) (Q : DQ) : Prop := match ds with
  | [.lst l] => (∀ d ∈ l, d.isNk = true ∧ d.py.depth ≤ 8) ∧ PySem.W.AllAlike (l.map D.py) ∧ PySem.W.Sortable (l.map D.py) ∧ Q (.lst (sortD l))
  | _ => False
theorem reps_zip {K : PySem.W.Frag} {hd : Option Addr} {S : Hp} : ∀ {l : List D} {xs : List V}, Reps K hd S l xs → (xs.zip l).map (·.2) = l ∧ (xs.zip l).map (·.1) = xs ∧ ∀ t ∈ xs.zip l, Rep K hd S t.2 t.1 ∧ t.2 ∈ l
  | [], _, h => by
    have h : _ = [] := h
    rw [h]
    exact ⟨rfl, rfl, fun t ht => by cases ht⟩
  | d :: ds, _, h => by
    obtain ⟨x, r, h1, h2, h3⟩ := h
    rw [h1]
    obtain ⟨a, b, c⟩ := reps_zip h3
    refine ⟨by rw [List.zip_cons_cons, List.map_cons, a], by rw [List.zip_cons_cons, List.map_cons, b], fun t ht => ?_⟩
    rw [List.zip_cons_cons] at ht
    rcases List.mem_cons.mp ht with rfl | ht
    · exact ⟨h2, List.mem_cons_self⟩
    · exact ⟨(c t ht).1, List.mem_cons_of_mem _ (c t ht).2⟩
theorem reps_all {K : PySem.W.Frag} {hd : Option Addr} {S : Hp} : ∀ {ts : List (V × D)}, (∀ t ∈ ts, Rep K hd S t.2 t.1) → Reps K hd S (ts.map (·.2)) (ts.map (·.1))
  | [], _ => rfl
  | t :: ts, h => Reps.cons (h t List.mem_cons_self) (reps_all fun x hx => h x (List.mem_cons_of_mem _ hx))
section
variable {F : Fam} {ρ : Rho} {e : Expr} {es : List Expr} {Q : DQ} {pos : Pos}
theorem De.sortD {p : Pos} (hm : ∀ i, (F.cx i).mg "sorted" = none) (h : Da F ρ (e :: es) fun ds => dSortD ds Q) (hg : ∀ i, Gl (F.cx i) "sorted" := by intro _; rfl) (he : ∀ i, starEach (e :: es) (F.cx i).env = (false, eval e (F.cx i).env) :: starEach es (F.cx i).env := by intro _; rfl) (hpl : ∀ i, (backTo pos (starEach es (F.cx i).env)).any (·.1) = false := by intro _; rfl) :
    De F ρ (.Call (.Name "sorted" p) (e :: es) [] pos) Q := by
  refine De.bi (r := fun i => rSortD (F.cx i)) (fun i => cr_sortD (by have := (F.room i).units; omega)) hm (by decide +kernel) (d := dSortD) (fun i E S H ds vs R q w rr k => ?_) h hg (by decide) (by decide) he hpl
  unfold dSortD at q
  split at q
  · obtain ⟨hn, hal, hsk, q⟩ := q
    obtain ⟨v, rfl, ⟨a, xs, rfl, e1, r1⟩⟩ := Reps.one rr
    obtain ⟨z1, z2, z3⟩ := reps_zip r1
    rename_i l
    have ek : ((xs.zip l).map fun t => (t.1, t.2.py)).map (·.2) = l.map D.py := by
      rw [List.map_map]
      conv => rhs; rw [← z1, List.map_map]
      rfl
    refine ⟨a, xs, (xs.zip l).map fun t => (t.1, t.2.py), rfl, .of (w.sh _ _ e1), ?_, by rw [ek]; exact hal, by rw [ek]; exact hsk, fun p hp => ?_, fun p hp pins σ s u I ru => ?_, fun t ht => ?_⟩
    · rw [List.map_map]
      exact z2
    · obtain ⟨t, ht, rfl⟩ := List.mem_map.mp hp
      exact (hn _ (z3 t ht).2).2
    · obtain ⟨t, ht, rfl⟩ := List.mem_map.mp hp
      exact py_reads w.sh I (z3 t ht).1 (hn _ (z3 t ht).2).1 ru
    · have m1 : ((xs.zip l).mergeSort fun a b => leD a.2 b.2).map (fun t => (t.1, t.2.py)) = ((xs.zip l).map fun t => (t.1, t.2.py)).mergeSort (PySem.W.dataLe false (·.2)) := List.map_mergeSort fun a _ b _ => rfl
      have m2 : ((xs.zip l).mergeSort fun a b => leD a.2 b.2).map (·.2) = ((xs.zip l).map (·.2)).mergeSort leD := List.map_mergeSort fun a _ b _ => rfl
      rw [z1] at m2
      rw [← m1, List.map_map]
      have g := w.new (o := .lst (((xs.zip l).mergeSort fun a b => leD a.2 b.2).map (·.1))) ht
      refine k _ _ _ _ q g ⟨t, _, rfl, upd_same, ?_⟩
      refine Reps.mono g.s ?_
      show Reps _ _ _ (l.mergeSort leD) _
      rw [← m2]
      exact reps_all fun t ht => (z3 t ((List.mergeSort_perm _ _).mem_iff.mp ht)).1
  · exact q.elim
end
/-! ### != of nested data -/
/-- a thing that reads as data: what isNk says, or a list of such -/
def D.isD : D → Bool
  | .lst l => D.isNk.allNk l
  | d => d.isNk
def D.py2 : D → PyData
  | .lst l => .list (pys l)
  | d => d.py
def RdOk (X : Cx) (H : Hp) (x : V) (d : PyData) : Prop := ∀ (pins : List (Addr × Obj)) (σ : L2.St) (s : Shared) (u : Value), Inv X pins σ H s → RelV x u → ∃ as, Reads s.heap u d as
theorem op_neX {X : Cx} (hu : X.A.units + 64 < cLine) : OpR X (compareOp .NotEq) (fun x y H Q => ∃ d e, RdOk X H x d ∧ RdOk X H y e ∧ SeqAt.shaped d = true ∧ SeqAt.shaped e = true ∧ Q (.bl (!PyData.eqv d e)) H) := by
  intro pins s σ H x y v u Q I rx ry h
  obtain ⟨d, e, hd, he, sd, se, q⟩ := h
  obtain ⟨as, r1⟩ := hd pins σ s v I rx
  obtain ⟨bs, r2⟩ := he pins σ s u I ry
  exact SeqAt.compareNe_shaped r1 r2 sd se hu ⟨.bl _, H, I, rfl, q⟩
theorem rdOk_of {X : Cx} {hd : Option Addr} {S H : Hp} (e : Same S H) {d : D} {v : V} (r : Rep X.K hd S d v) (h : d.isD = true) : RdOk X H v d.py2 := by
  intro pins σ s u I ru
  cases d with
  | lst l =>
    obtain ⟨a, xs, rfl, q, rr⟩ := r
    cases (show u = _ from ru)
    obtain ⟨its, rv, pl, _⟩ := I.list (SqL.of (e _ _ q))
    obtain ⟨o, h1, h2, n, h3⟩ := pl.isList
    obtain ⟨as, ra⟩ := pys_reads e I rr h rv
    exact ⟨_, .list h1 h2 h3 (by simpa using ra)⟩
  | _ => exact py_reads e I r h ru
def dNeD (x y : D) (Q : DQ) : Prop := (x.isD = true ∧ y.isD = true ∧ SeqAt.shaped x.py2 = true ∧ SeqAt.shaped y.py2 = true) ∧ Q (.bl (!PyData.eqv x.py2 y.py2))
section
variable {F : Fam} {ρ : Rho} {a b : Expr} {pos : Pos}
theorem Dt.neD {Q : Bool → Prop} (h : De F ρ a fun x => De F ρ b fun y => dNeD x y (isB Q)) : Dt F ρ (.Compare a [.NotEq] [b] pos) Q := fun i =>
  Dt1.of (pt_cmpR (op_neX (F.room i).units) pe_all pe_all (nomark _)) fun E S H σ R g k => h.all g fun x v S1 H1 qx g1 rx => qx.all (g.go g1) fun y u S2 H2 qy g2 ry => by
    obtain ⟨⟨h1, h2, h3, h4⟩, q⟩ := qy
    exact ⟨_, _, rdOk_of g2.w.sh (rx.mono g2.s) h1, rdOk_of g2.w.sh ry h2, h3, h4, _, rfl, k _ S2 H2 q (g1.trans g2)⟩
end
end DL
set_option Elab.async false
set_option linter.all false
set_option maxRecDepth 100000
/-! DLG: sorted(a tuple). -/
namespace PyProof.Rows
open PySem
section
variable {prog : Program} {w : World} {A : Around} {E : Value → Shared → Prop} {s : Shared}
theorem collect_tup {l : Addr} {vs : List Value} {Q : List Value → Shared → Prop} (hl : s.heap.IsTuple l vs.toArray)
    (h : Q vs { s with heap := (s.heap.push (seqObj "list" #[] 0)).update s.heap.objs.size (Obj.mapSeq (· ++ vs.toArray)) }) (hsz : vs.length ≤ sizeLine) :
    wpAny (model prog w) A (collect (.ref l)) Q E s := by
  obtain ⟨o, ho, hc, n, hd⟩ := id hl
  unfold collect
  refine wpAny_bind (wpAny_runValue (codeAny_builtin entry_proto_collect' ?_))
  show wpAny _ _ (do again (.builtin "list.__iadd__" ⟨[← newList [], .ref l], []⟩)) _ _ s
  refine wpAny_bind (wpAny_newList (wpAny_pure ⟨Code.quiet_builtin _ (by decide +kernel), codeAny_builtin entry_list_iadd' ?_⟩))
  show wpAny _ _ (Builtin.List.listExtendWith (.ref s.heap.objs.size) (.ref l) (.ref s.heap.objs.size)) _ _ { s with heap := s.heap.push (seqObj "list" #[] 0) }
  unfold Builtin.List.listExtendWith
  have ho' : (s.heap.push (seqObj "list" #[] 0)).get? l = some o := Heap.get?_push_of_some _ ho
  refine wpAny_bind (wpAny_typeOf (T := "tuple") ⟨o, ho', hc⟩ ?_)
  have ht : (Value.type "tuple" == Value.type "tuple") = true := by rfl
  rw [if_pos (by rw [ht]; simp)]
  refine wpAny_bind (listItems_at ho' hd ?_)
  refine wpAny_bind (listItems_at (xs := #[]) (n := 0) (Heap.get?_push_size _ rfl) rfl ?_)
  rw [if_neg (by simp)]
  refine wpAny_bind (listUpdate_at (xs := #[]) (n := 0) (Heap.get?_push_size _ rfl) rfl ?_ (Nat.zero_le _) (by show (#[] ++ vs.toArray).size ≤ sizeLine + 1; simp only [Array.size_append, List.size_toArray, List.length_nil]; omega))
  refine wpAny_pure ?_
  show wpAny (model prog w) A (do
      let o ← load s.heap.objs.size
      match o.data with
      | .seq xs _ => pure xs.toList
      | _ => unsupported "internal:collect") Q E { s with heap := (s.heap.push (seqObj "list" #[] 0)).update s.heap.objs.size (Obj.mapSeq (· ++ vs.toArray)) }
  refine wpAny_bind (wpAny_load (get?_update_seq (Heap.get?_push_size _ rfl) _) ?_)
  show wpAny _ _ (pure ((#[] : Array Value) ++ vs.toArray).toList) Q E _
  rw [show ((#[] : Array Value) ++ vs.toArray).toList = vs by simp]
  exact wpAny_pure h
end
end PyProof.Rows
namespace PySem.W
open PySem PySem.Calls PyProof.Rows
section
variable {prog : Program} {w : World} {A : Around} {E : Value → Shared → Prop} {s : Shared} {κ : PyProof.Rows.KeyKind}
theorem sorted_tup_vals {l : Addr} {vs : List Value} {Q : Value → Shared → Prop} (hl : s.heap.IsTuple l vs.toArray) (S : SortsAt prog w A.in1.in1 { s with heap := sortingHeap (copyHeap s.heap vs) (s.heap.objs.size + 1) vs } κ vs) (hL : vs.length ≤ sizeLine)
    (h : Q (.ref (s.heap.objs.size + 1)) { s with heap := sortedAll s.heap vs (sortVals κ false vs vs).toArray }) : wpAny (model prog w) A (call (.builtin "sorted") [.ref l]) Q E s := by
  refine call_function_entry_kw kind_sorted plain_sorted entry_sorted (args_sorted1 _) ?_
  unfold Builtin.«sorted»
  refine wpAny_bind (m := checkCount "sorted" 1 1 _) (wpAny_pure ?_)
  refine wpAny_bind (collect_tup hl ?_ hL)
  refine wpAny_bind (wpAny_newList ?_ hL)
  have hsz : ((s.heap.push (seqObj "list" #[] 0)).update s.heap.objs.size (Obj.mapSeq (· ++ vs.toArray))).objs.size = s.heap.objs.size + 1 := by
    rw [Heap.size_update, size_push']
  show wpAny _ _ _ _ _ { s with heap := copyHeap s.heap vs }
  rw [hsz]
  refine wpAny_bind (wpAny_holding (wpAny_call_entry_kw slot_list_sort ⟨_, copyHeap_at s.heap vs, rfl⟩ entry_list_sort ?body (args_list_sort _)))
  case body =>
    show wpAny (model prog w) A.in1.in1 (Builtin.«list.sort» ⟨[.ref (s.heap.objs.size + 1)], []⟩) _ _ _
    exact list_sort_vals (s := { s with heap := copyHeap s.heap vs }) (copyHeap_at s.heap vs) S hL ⟨_, rfl, wpAny_pure ⟨_, rfl, h⟩⟩
end
end PySem.W
namespace DL
open PySem PySem.Spec PyProof.Rows L2
/-- what is sorted: the values with what they read as -/
def rSortT (X : Cx) : List V → Hp → VK → Prop := fun xs H Q => ∃ (a : Addr) (vs : List V) (ks : List (V × PyData)), xs = [.ref a] ∧ SqT X.K H a vs ∧ ks.map (·.1) = vs ∧ PySem.W.AllAlike (ks.map (·.2)) ∧ PySem.W.Sortable (ks.map (·.2)) ∧ (∀ p ∈ ks, p.2.depth ≤ 8) ∧
  (∀ p ∈ ks, ∀ (pins : List (Addr × Obj)) (σ : L2.St) (s : Shared) (u : Value), Inv X pins σ H s → RelV p.1 u → ∃ as, Reads s.heap u p.2 as) ∧ ∀ t, H t = none → Q (.ref t) (upd H t (.lst ((ks.mergeSort (PySem.W.dataLe false (·.2))).map (·.1))))
theorem cr_sortT {X : Cx} (hu : X.A.units + 40 < cLine) : CallR X (.builtin "sorted") (rSortT X) := by
  intro pins s σ H xs us Q I r h
  obtain ⟨a, vs, ks, rfl, hs, rfl, hal, hsk, hdp, hrd, q⟩ := h
  obtain ⟨its, rv, hl, hz⟩ := I.tuple hs
  obtain ⟨u, rfl, ru⟩ := r.one
  obtain rfl : u = Value.ref a := ru
  have ez := each_of I rv hrd
  have hlen : its.length ≤ sizeLine := by rw [← rv.length]; exact hz
  have hk6 : ∀ b o, s.heap.get? b = some o → (PySem.W.sortingHeap (PySem.W.copyHeap s.heap its) (s.heap.objs.size + 1) its).get? b = some o := fun b o e => PySem.W.sorting_copy_old e
  have e6 : PySem.W.EachIs (fun v (p : V × PyData) => ∃ as, Reads (PySem.W.sortingHeap (PySem.W.copyHeap s.heap its) (s.heap.objs.size + 1) its) v p.2 as) its ks := ez.mono fun v p q => by
    obtain ⟨as, ra⟩ := q.2
    exact ⟨as, PyProof.Rows.Reads.keeps hk6 ra⟩
  have e7 := each_map (R := fun v d => ∃ as, Reads (PySem.W.sortingHeap (PySem.W.copyHeap s.heap its) (s.heap.objs.size + 1) its) v d as) (fun p : V × PyData => p.2) e6
  refine PySem.W.sorted_tup_vals hl (PySem.W.SortsAt.data e7 hal hsk fun d hd => ?_) hlen ?_
  · obtain ⟨p, hp, rfl⟩ := List.mem_map.mp hd
    have := hdp p hp
    rw [Around.in1_units, Around.in1_units]
    omega
  · have eo := PySem.W.sortVals_each (rev := false) (κ := PySem.W.dataKind (PySem.W.sortingHeap (PySem.W.copyHeap s.heap its) (s.heap.objs.size + 1) its) (ks.map (·.2))) (fun p : V × PyData => PySem.W.keyToks p.2) (ez.mono fun v p q => q.1) (PySem.W.each_of_map (fun p : V × PyData => p.2) (PySem.W.each_keys hal e7))
    generalize PySem.W.sortVals _ false its its = out at eo ⊢
    have ev := each_vals eo
    obtain ⟨ep, he'⟩ := PyProof.Rows.sortedAll_at s.heap its out.toArray
    refine ⟨.ref _, upd H (s.heap.objs.size + 1) (.lst _), I.laid (t' := s.toks) (fun _ _ => PyProof.Rows.sortedAll_old) (Nat.le_succ _) ⟨?_, out, ep, ev, he'⟩, rfl, q _ (I.hok.fresh (Nat.le_succ _))⟩
    rw [List.length_map, (List.mergeSort_perm _ _).length_eq]
    rw [List.length_map] at hz
    exact hz
def dSortT (ds : List D) (Q : DQ) : Prop := match ds with
  | [.tup l] => (∀ d ∈ l, d.isNk = true ∧ d.py.depth ≤ 8) ∧ PySem.W.AllAlike (l.map D.py) ∧ PySem.W.Sortable (l.map D.py) ∧ Q (.lst (sortD l))
  | _ => False
section
variable {F : Fam} {ρ : Rho} {e : Expr} {es : List Expr} {Q : DQ} {pos : Pos}
theorem De.sortT {p : Pos} (hm : ∀ i, (F.cx i).mg "sorted" = none) (h : Da F ρ (e :: es) fun ds => dSortT ds Q) (hg : ∀ i, Gl (F.cx i) "sorted" := by intro _; rfl) (he : ∀ i, starEach (e :: es) (F.cx i).env = (false, eval e (F.cx i).env) :: starEach es (F.cx i).env := by intro _; rfl) (hpl : ∀ i, (backTo pos (starEach es (F.cx i).env)).any (·.1) = false := by intro _; rfl) :
    De F ρ (.Call (.Name "sorted" p) (e :: es) [] pos) Q := by
  refine De.bi (r := fun i => rSortT (F.cx i)) (fun i => cr_sortT (by have := (F.room i).units; omega)) hm (by decide +kernel) (d := dSortT) (fun i E S H ds vs R q w rr k => ?_) h hg (by decide) (by decide) he hpl
  unfold dSortT at q
  split at q
  · obtain ⟨hn, hal, hsk, q⟩ := q
    obtain ⟨v, rfl, ⟨a, xs, rfl, e1, r1⟩⟩ := Reps.one rr
    obtain ⟨z1, z2, z3⟩ := reps_zip r1
    rename_i l
    have ek : ((xs.zip l).map fun t => (t.1, t.2.py)).map (·.2) = l.map D.py := by
      rw [List.map_map]
      conv => rhs; rw [← z1, List.map_map]
      rfl
    refine ⟨a, xs, (xs.zip l).map fun t => (t.1, t.2.py), rfl, Same.sqT w.sh e1, ?_, by rw [ek]; exact hal, by rw [ek]; exact hsk, fun p hp => ?_, fun p hp pins σ s u I ru => ?_, fun t ht => ?_⟩
    · rw [List.map_map]
      exact z2
    · obtain ⟨t, ht, rfl⟩ := List.mem_map.mp hp
      exact (hn _ (z3 t ht).2).2
    · obtain ⟨t, ht, rfl⟩ := List.mem_map.mp hp
      exact py_reads w.sh I (z3 t ht).1 (hn _ (z3 t ht).2).1 ru
    · have m1 : ((xs.zip l).mergeSort fun a b => leD a.2 b.2).map (fun t => (t.1, t.2.py)) = ((xs.zip l).map fun t => (t.1, t.2.py)).mergeSort (PySem.W.dataLe false (·.2)) := List.map_mergeSort fun a _ b _ => rfl
      have m2 : ((xs.zip l).mergeSort fun a b => leD a.2 b.2).map (·.2) = ((xs.zip l).map (·.2)).mergeSort leD := List.map_mergeSort fun a _ b _ => rfl
      rw [z1] at m2
      rw [← m1, List.map_map]
      have g := w.new (o := .lst (((xs.zip l).mergeSort fun a b => leD a.2 b.2).map (·.1))) ht
      refine k _ _ _ _ q g ⟨t, _, rfl, upd_same, ?_⟩
      refine Reps.mono g.s ?_
      show Reps _ _ _ (l.mergeSort leD) _
      rw [← m2]
      exact reps_all fun t ht => (z3 t ((List.mergeSort_perm _ _).mem_iff.mp ht)).1
  · exact q.elim
end
end DL
set_option Elab.async false
set_option linter.all false
set_option maxRecDepth 100000
set_option maxHeartbeats 4000000
/-! DLX: errors: a def that surely raises; try .. except X as n .. with more clauses behind. -/
namespace L2
open PySem PySem.Spec PyProof.Rows
section
variable {X : Cx} {C : Addr} {bmB : List Value} {B newId initId : String}
/-- X() -/
theorem pmk_own0 {x : Str} {p pos : Pos} (F : ExcBaseFacts B newId initId bmB) (q : PySem.W.excIn X.K C bmB newId = true) (gC : X.mg x = some (.ref C)) (kC : PySem.W.keepIn X.K (.ref C) = true) (r : Raises X (.ref C)) (hg : Gl X x)
    (hdb : (x == ("__debug__" : Str)) = false := by decide) : PMk X (.Call (.Name x p) [] [] pos) (fun _ H Q => Q (.ref C) none H) := by
  intro pins s σ H Q I h
  refine wpAny_Call_Name_kw (ld_glob I hg gC ?_ hdb)
  refine PySem.W.callWith_K0 I.kIn kC ?_
  obtain ⟨bm, N, nm, qn, bs, hdct, sn, sub, ab, col, dd, k0, k1, k2, k3, k5, mN, hC, hN, hni, T⟩ := exc_obj I.kIn q
  refine wpAny_call_exc_subT F T hC hN hni (fun h' e hm => ?_) (Nat.zero_le _)
  exact mk_of I hm r h (I.hok.gone hm.new)
end
end L2
namespace DL
open PySem PySem.Spec PyProof.Rows L2
/-- a def that surely raises C, where f says -/
def spX (K : PySem.W.Frag) (C : Addr) (f : List D → Prop) : Sp := fun vs H R Ex => ∃ E S ds, Wld K E S H ∧ Reps K E.hd S ds vs ∧ f ds ∧ ∀ S' H', Go K E S H S' H' → Ex (.ref C) none H'
/-- the contexts of a def that may raise -/
def famX (G : Glo) (N : List Str) (qual : Str) (sc : Scope) (k : Nat) : Fam where
  ι := Dyn k qual sc
  cx := fun z => cxOf (L2.CX G.P G.w) G.P G.w G.K G.mg G.base N qual sc z.f z.cdv z.A z.outer z.s z.H z.E
  k := k
  room := fun z => z.hr
  calm := fun _ => rfl
/-- what a block that surely raises C asks -/
def tRz (K : PySem.W.Frag) (ρ : Rho) (C : Addr) (E : XK) : TS := fun _ σ H => ∃ En S, EnvOk K En S H ρ σ ∧ ∀ S' H', Go K En S H S' H' → E (.ref C) none H'
theorem env0 {K : PySem.W.Frag} {E' : Ent} {S H : Hp} {N ps : List Str} {ds : List D} {vs : List V} (w : Wld K E' S H) (r : Reps K E'.hd S ds vs) (hn : ds.length ≤ N.length) : EnvOk K ⟨E'.hd, E'.hc, S, H⟩ S H (rho0 N ds) (L2.start N vs) := by
  refine ⟨⟨w.sh, Same.refl _, w.hand, w.nh, But.refl _ _, fun b o e n => ?_⟩, ?_, fun i d e => ?_, fun i o e => (rho0_ow e).elim, fun i j o o' a e => (rho0_ow e).elim⟩
  · have n : S b = none := n
    rw [n] at e
    cases e
  · have e := r.length
    unfold L2.start rho0
    simp only [List.length_append, List.length_map, List.length_replicate]
    omega
  · have e := rho0_get e
    obtain ⟨v, a, b⟩ := r.get e
    refine ⟨v, ?_, b⟩
    show (L2.start N vs)[i]? = _
    unfold L2.start
    have hi := (List.getElem?_eq_some_iff.mp a).1
    rw [List.getElem?_append_left (by rw [List.length_map]; exact hi), List.getElem?_map, a]
    rfl
/-- from the def's own world back to the caller's -/
theorem go_back {K : PySem.W.Frag} {E' : Ent} {S' H : Hp} (w : Wld K E' S' H) {S2 H2 : Hp} (w2 : Wld K ⟨E'.hd, E'.hc, S', H⟩ S2 H2) : Go K E' S' H S2 H2 := by
  refine ⟨w2.s0, w2.fr, w2.nw, w2.sh, w.s0.trans w2.s0, w2.hand, w2.nh, w.fr.trans w2.fr, fun b o e n => ?_⟩
  cases q2 : S' b with
  | some u => exact w.nw b u q2 n
  | none =>
    have z : H b = none := w2.nw b o e q2
    cases r2 : E'.H0 b with
    | none => rfl
    | some u =>
      by_cases eb : E'.hd = some b
      · rw [w2.nh b eb] at e
        cases e
      · rw [w.fr b u r2 eb] at z
        cases z
/-- THE RULE for a def that surely raises -/
theorem defX {G : Glo} {x qual : Str} {st : Stmt} {f : Addr} {fd : FuncData} {N ps : List Str} {k : Nat} {C : Addr} {spec : List D → Prop} (F : Fun G.K x qual st f fd) (S : FnScope N ps (defScope st)) (hl : ∀ ds, spec ds → ds.length = ps.length) (hN : ps.length ≤ N.length)
    (h : ∀ ds, spec ds → ∀ z : Dyn k qual (defScope st), PSs ((famX G N qual (defScope st) k).cx z) (defBody st) (tRz G.K (rho0 N ds) C z.E)) : FnOk G.P G.w G.K G.mg G.base (L2.CX G.P G.w) (k + 1) f fd ps (spX G.K C spec) := by
  refine F.okX S (fun vs H R E hs => ?_) (fun cdv A outer s H vs R E hr hs => ?_)
  · obtain ⟨E', S', ds, w, r, hq, _⟩ := hs
    rw [← r.length]
    exact hl ds hq
  · obtain ⟨E', S', ds, w, r, hq, kk⟩ := hs
    exact ⟨_, h ds hq ⟨f, cdv, A, outer, s, H, E, hr⟩, ⟨E'.hd, E'.hc, S', H⟩, S', env0 (ps := ps) w r (by rw [hl ds hq]; exact hN), fun S2 H2 g => kk S2 H2 (go_back w g.w)⟩
/-- a def at a module's name surely raises -/
structure CalleeX (G : Glo) (x : Str) (C : Addr) (spec : List D → Prop) (k : Nat) : Prop where
  ok : ∃ f fd ps, FnOk G.P G.w G.K G.mg G.base (L2.CX G.P G.w) k f fd ps (spX G.K C spec) ∧ G.mg x = some (.ref f) ∧ PySem.W.keepIn G.K (.ref f) = true ∧ Binds G.K fd ps []
section
variable {G : Glo} {N : List Str} {qual : Str} {sc : Scope} {k : Nat} {ρ : Rho} {C : Addr}
/-- f(..) as a statement, f surely raises; what stands behind is never reached -/
theorem raises_call {x : Str} {p pos pos2 : Pos} {e : Expr} {es : List Expr} {rest : List Stmt} {spec : List D → Prop} {j : Nat} (c : CalleeX G x C spec j) (h : Da (famX G N qual sc k) ρ (e :: es) fun ds => spec ds) (hk : j ≤ k := by exact Nat.le_of_ble_eq_true rfl)
    (hg : ∀ i, Gl ((famX G N qual sc k).cx i) x := by intro _; rfl) (hdb : (x == ("__debug__" : Str)) = false := by decide) (he : ∀ i, starEach (e :: es) ((famX G N qual sc k).cx i).env = (false, eval e ((famX G N qual sc k).cx i).env) :: starEach es ((famX G N qual sc k).cx i).env := by intro _; rfl)
    (hpl : ∀ i, (backTo pos (starEach es ((famX G N qual sc k).cx i).env)).any (·.1) = false := by intro _; rfl) (hsw : ∀ i, swapsWith (.Call (.Name x p) (e :: es) [] pos) none pos2.line ((famX G N qual sc k).cx i).env = pure false := by intro _; rfl) (z : Dyn k qual sc) :
    PSs ((famX G N qual sc k).cx z) (.Expr (.Call (.Name x p) (e :: es) [] pos) pos2 :: rest) (tRz G.K ρ C z.E) := by
  obtain ⟨f, fd, ps, Fk, hm, kp, b⟩ := c.ok
  have tk : Takes ((famX G N qual sc k).cx z) (fun cls d _ H => z.E cls d H) := takes_of (X := (famX G N qual sc k).cx z) rfl rfl rfl rfl
  refine PSs.imp (pss_cons (ps_expr (pe_call (X := (famX G N qual sc k).cx z) (E := z.E) Fk (((famX G N qual sc k).room z).mono hk) (hg z) hm kp b .nil (passes_call tk fun _ _ _ _ q => q) pa_all hdb (he z) (hpl z)) (hsw z)) pss_never) fun D' σ H hh => ?_
  obtain ⟨E, S, g, q⟩ := hh
  show tAllA _ _ σ H _
  refine Da.all (F := famX G N qual sc k) (i := z) h g fun ds vs S1 H1 qd g1 rr => ?_
  rw [List.append_nil]
  exact ⟨E, S1, ds, g1.w, rr, qd, fun S2 H2 g2 => q S2 H2 (g1.trans g2)⟩
/-- if t: raise X() as the whole body, t being so -/
theorem raises_if {x : Str} {t : Expr} {p pos pos2 pos3 : Pos} {bmB : List Value} {B newId initId : String} {rest : List Stmt} (F : ExcBaseFacts B newId initId bmB) (hx : PySem.W.excIn G.K C bmB newId = true) (gC : G.mg x = some (.ref C)) (kC : PySem.W.keepIn G.K (.ref C) = true)
    (h1 : PySem.W.subIn G.K (.ref C) (.type "BaseException") = some true) (h2 : PySem.W.typeIn G.K (.ref C) = some (.type "type")) (ht : Dt (famX G N qual sc k) ρ t fun b => b = true) (hg : ∀ i, Gl ((famX G N qual sc k).cx i) x := by intro _; rfl) (hdb : (x == ("__debug__" : Str)) = false := by decide) (z : Dyn k qual sc) :
    PSs ((famX G N qual sc k).cx z) (.If t [.Raise (some (.Call (.Name x p) [] [] pos)) none pos2] [] pos3 :: rest) (tRz G.K ρ C z.E) := by
  have tk : Takes ((famX G N qual sc k).cx z) (fun cls d _ H => z.E cls d H) := takes_of (X := (famX G N qual sc k).cx z) rfl rfl rfl rfl
  have hr : PSs ((famX G N qual sc k).cx z) [.Raise (some (.Call (.Name x p) [] [] pos)) none pos2] _ := pss_one (ps_raise rfl tk (pmk_own0 (X := (famX G N qual sc k).cx z) (pos := pos) (p := p) F hx gC kC (raises_own h1 h2) (hg z) hdb))
  refine PSs.imp (pss_cons (ps_if pt_all hr pss_never) pss_never) fun D' σ H hh => ?_
  obtain ⟨E, S, g, q⟩ := hh
  show tAllT _ _ σ H _
  refine Dt.all (F := famX G N qual sc k) (i := z) ht g fun b S1 H1 qb g1 => ?_
  subst qb
  exact q S1 H1 g1
end
end DL
set_option Elab.async false
set_option linter.all false
set_option maxRecDepth 100000
set_option maxHeartbeats 4000000
/-! DLH: the volatile list, in the def that changes it. -/
namespace DL
open PySem PySem.Spec PyProof.Rows L2
section
variable {F : Fam} {ρ : Rho} {a b e : Expr} {Q : DQ} {k : Ek} {pos : Pos}
/-- hand[n] -/
theorem De.hix (j : Nat) {x : Str} {px : Pos} {ha c : Addr} {cells l : List Int} (hj : ρ[j]? = some (Sl.ow (.hnd ha c cells l))) (h : De F ρ b (isI fun n => 0 ≤ n ∧ (n = 0 → Q (.lst (cells.map D.int))) ∧ (n ≠ 0 → ∃ i, l[n.toNat - 1]? = some i ∧ Q (.int i))))
    (hN : ∀ i, (F.cx i).N[j]? = some x := by intro _; rfl) (hv : ∀ i, Vis (F.cx i).env.scope x := by intro _; first | exact Or.inl rfl | exact Or.inr (Or.inl rfl) | exact Or.inr (Or.inr rfl)) (h1 : (x == ("__debug__" : Str)) = false := by decide) (h2 : (x == ("__classdict__" : Str)) = false := by decide)
    (hs : PlainIx b := by intro _ _; rfl) : De F ρ (.Subscript (.Name x px) b pos) Q := fun i =>
  De1.of (pe_ix ix_seq (pe_var (hN i) (hv i) h1 h2) pe_all hs) fun E S H σ R g kk => by
    obtain ⟨p, hσ, oa⟩ := g.ow j _ hj
    refine ⟨_, hσ, h.all g fun y u S1 H1 qy g1 ry => ?_⟩
    obtain ⟨n, rfl, n0, q0, q1⟩ := isI_of qy
    cases (show u = _ from ry)
    obtain ⟨e0, e1, e2⟩ := (oa.go g1).own
    by_cases z : n = 0
    · subst z
      exact .inl ⟨p, _, 0, .ref c, rfl, rfl, .of e1, atI_of (Int.le_refl 0) rfl, kk _ _ S1 H1 (q0 rfl) g1 ⟨c, _, rfl, e2, reps_ints cells⟩⟩
    · obtain ⟨i, hi, qi⟩ := q1 z
      refine .inl ⟨p, _, n, .int i, rfl, rfl, .of e1, atI_of n0 ?_, kk _ _ S1 H1 qi g1 rfl⟩
      obtain ⟨m, hm⟩ : ∃ m : Nat, n.toNat = m + 1 := ⟨n.toNat - 1, by omega⟩
      rw [hm] at hi ⊢
      rw [List.getElem?_cons_succ, List.getElem?_map]
      rw [show m + 1 - 1 = m by omega] at hi
      rw [hi]
      rfl
/-- hand[n] = e -/
theorem Ds.hset (j : Nat) {x : Str} {ha c : Addr} {cells l : List Int} {px tpos : Pos} (hj : ρ[j]? = some (Sl.ow (.hnd ha c cells l))) (h : De F ρ e (isI fun v => De F ρ b (isI fun n => 1 ≤ n ∧ n ≤ l.length ∧ k.nx (ρ.set j (.ow (.hnd ha c cells (l.set (n.toNat - 1) v)))))))
    (hN : ∀ i, (F.cx i).N[j]? = some x := by intro _; rfl) (hv : ∀ i, Vis (F.cx i).env.scope x := by intro _; first | exact Or.inl rfl | exact Or.inr (Or.inl rfl) | exact Or.inr (Or.inr rfl)) (h1 : (x == ("__debug__" : Str)) = false := by decide) (h2 : (x == ("__classdict__" : Str)) = false := by decide)
    (has : ∀ i v, assign (.Subscript (.Name x px) b tpos) (F.cx i).env v = (do
      let ov ← holding [v] (eval (.Name x px) (F.cx i).env)
      let iv ← holding [v, ov] (eval b (F.cx i).env)
      standAt tpos
      holding [v, ov, iv] (setItem ov iv v)
      release [v, ov, iv] []) := by intro _ _; rfl)
    (hs : ∀ i, swapsWithSole [.Subscript (.Name x px) b tpos] e pos.line (F.cx i).env = pure false := by intro _; rfl) (hw : ∀ i, swappedStores [.Subscript (.Name x px) b tpos] e (F.cx i).env = pure none := by intro _; rfl)
    (hh : ∀ i, (assignEach [.Subscript (.Name x px) b tpos] (F.cx i).env).map (·.2) = [assign (.Subscript (.Name x px) b tpos) (F.cx i).env] := by intro _; rfl) :
    Ds F ρ (.Assign [.Subscript (.Name x px) b tpos] e pos) k := fun i =>
  Ds1.of (ps_asg pe_all (pg_sub (pe_var (hN i) (hv i) h1 h2) pe_all set_list (has i)) (hs i) (hw i) (hh i)) fun E S H σ D' g q => by
    obtain ⟨a, hσ, oa⟩ := g.ow j _ hj
    refine h.all g fun d v S1 H1 qd g1 r => ?_
    obtain ⟨m, rfl, qd⟩ := isI_of qd
    cases (show v = _ from r)
    refine ⟨_, hσ, De.all qd (g.go g1) fun y u S2 H2 qy g2 ry => ?_⟩
    obtain ⟨n, rfl, n0, nl, qn⟩ := isI_of qy
    have g12 := g1.trans g2
    have oa2 := oa.go g12
    obtain ⟨e0, e2, e3⟩ := oa2.own
    cases (show u = _ from ry)
    obtain ⟨n', hn'⟩ : ∃ m : Nat, n.toNat = m + 1 := ⟨n.toNat - 1, by omega⟩
    refine ⟨a, _, n, n.toNat, rfl, rfl, e2, ?_, ?_⟩
    · unfold ixN
      rw [if_pos (by omega), if_pos (by rw [List.length_cons, List.length_map]; omega)]
    · refine q.nx _ S2 _ σ qn g12.s ((g.go g12).put hj hσ oa2 ⟨e0, ?_, e3⟩)
      rw [upd_same, hn', List.set_cons_succ, show n' + 1 - 1 = n' by omega, List.map_set]
end
theorem intI {i : Int} {Q : DQ} (h : Q (.int i)) : dInt [.int i] Q := h
/-- the bounds -/
def HandB (cells : List Int) (i left mix n : Int) : Prop := (∀ x ∈ cells, 0 ≤ x ∧ x < 10 ^ 36) ∧ 0 ≤ i ∧ 0 ≤ left ∧ left < 10 ^ 36 ∧ 0 ≤ mix ∧ mix < 2 ^ 40 ∧ 0 ≤ n
/-- THE RULE for the def that changes the volatile list (its first argument; the second an int) -/
theorem defHand {G : Glo} {x qual : Str} {st : Stmt} {f : Addr} {fd : FuncData} {N : List Str} {n0 n1 : Str} {k : Nat} {spec : Nat → DQ → Prop} (F : Fun G.K x qual st f fd) (S : FnScope (n0 :: n1 :: N) [n0, n1] (defScope st))
    (h : ∀ (m : Nat) (Q : DQ), spec m Q → ∀ (a c : Addr) (cells : List Int) (i left mix n : Int), HandB cells i left mix n → Db (fam G (n0 :: n1 :: N) qual (defScope st) k) (.ow (.hnd a c cells [i, left, mix, n]) :: .sh (.int (m : Int)) :: List.replicate N.length .no) (defBody st)
      { rr := fun ρ d => ∃ i left mix n, ρ[0]? = some (Sl.ow (.hnd a c cells [i, left, mix, n])) ∧ HandB cells i left mix n ∧ (∃ z, d = .int z) ∧ Q d }) :
    FnOk G.P G.w G.K G.mg G.base CX0 (k + 1) f fd [n0, n1] (spD G.K fun ds Q => ∃ m : Nat, ds = [.hand, .int (m : Int)] ∧ spec m Q) := by
  refine F.ok S (fun vs H R E hs => ?_) (fun cdv A outer s H vs R E hr hs => ?_)
  · obtain ⟨E', S', ds, Q, w, r, ⟨m, rfl, hq⟩, _⟩ := hs
    rw [← Reps.length r]
    rfl
  · obtain ⟨E', S', ds, Q, w, r, ⟨m, rfl, hq⟩, kk⟩ := hs
    obtain ⟨v0, v1, rfl, ⟨a, ehd, rfl⟩, rv1⟩ := Reps.two r
    cases (show v1 = _ from rv1)
    obtain ⟨cells, i, left, mix, n, e1, e2, bnd⟩ := w.hand a ehd
    have sa : S' a = none := w.nh a ehd
    have wE : Wld G.K ⟨none, E'.hc, S', fun b => if b = a then none else H b⟩ S' H := by
      refine ⟨w.sh, Same.refl _, (fun b q => nomatch q), (fun b q => nomatch q), fun b o q n => ?_, fun b o q n => ?_⟩
      · have q : (if b = a then none else H b) = some o := q
        by_cases z : b = a
        · rw [if_pos z] at q; cases q
        · rw [if_neg z] at q; exact q
      · have n : S' b = none := n
        rw [n] at q
        cases q
    refine ⟨_, h m Q hq a E'.hc cells i left mix n bnd ⟨f, cdv, A, outer, s, H, E, hr⟩, ⟨none, E'.hc, S', fun b => if b = a then none else H b⟩, S', ⟨wE, ?_, fun j d q => ?_, fun j o q => ?_, fun j j' o o' b q q' _ _ => ?_⟩, ?_⟩
    · show (L2.start (n0 :: n1 :: N) [.ref a, .int (m : Int)]).length = _
      unfold L2.start
      simp
    · match j, q with
      | 0, q => cases q
      | 1, q =>
        cases q
        exact ⟨_, rfl, rfl⟩
      | j + 2, q =>
        have q : (List.replicate N.length Sl.no)[j]? = some (Sl.sh d) := q
        rw [List.getElem?_replicate] at q
        split at q <;> cases q
    · match j, q with
      | 0, q =>
        cases q
        exact ⟨a, rfl, by show (if a = a then none else H a) = none; rw [if_pos rfl], sa, (by intro z; cases z), rfl, e1, e2⟩
      | 1, q => cases q
      | j + 2, q =>
        have q : (List.replicate N.length Sl.no)[j]? = some (Sl.ow o) := q
        rw [List.getElem?_replicate] at q
        split at q <;> cases q
    · have only : ∀ {j : Nat} {o : Ob}, (Sl.ow (.hnd a E'.hc cells [i, left, mix, n]) :: Sl.sh (.int (m : Int)) :: List.replicate N.length Sl.no)[j]? = some (Sl.ow o) → j = 0 := fun {j o} q => by
        match j, q with
        | 0, q => rfl
        | 1, q => cases q
        | j + 2, q =>
          have q : (List.replicate N.length Sl.no)[j]? = some (Sl.ow o) := q
          rw [List.getElem?_replicate] at q
          split at q <;> cases q
      rw [only q, only q']
    · refine ⟨fun _ _ _ _ q => q.elim, fun _ _ _ _ q => q.elim, fun ρ d v S2 H2 σ q s2 g rr => ?_, fun _ _ _ _ q => q.elim, fun _ _ _ _ q => q.elim⟩
      obtain ⟨i', left', mix', n', e0, bnd', ⟨z, rfl⟩, qd⟩ := q
      obtain ⟨a', hσ, oa⟩ := g.ow 0 _ e0
      obtain ⟨ea, h1, h2⟩ := oa.own
      subst ea
      have inn : ∀ b o, S2 b = some o → S' b = none → b = a' ∨ H b = none := fun b o q n => by
        have z : (if b = a' then none else H b) = none := g.w.nw b o q n
        by_cases zb : b = a'
        · exact .inl zb
        · rw [if_neg zb] at z
          exact .inr z
      have hkeep : ∀ b o, H b = some o → b ≠ a' → H2 b = some o := fun b o q nb => g.w.fr b o (by show (if b = a' then none else H b) = some o; rw [if_neg nb]; exact q) (by intro z; cases z)
      have ne_hd : ∀ b, E'.hd ≠ some b → b ≠ a' := fun b n z => n (by rw [z]; exact ehd)
      have hb : HandOk E'.hd E'.hc S2 H2 := fun b q => by
        rw [ehd] at q
        cases q
        exact ⟨cells, i', left', mix', n', h1, h2, bnd'⟩
      refine kk (.int z) v S2 H2 qd ⟨s2, fun b o q nb => hkeep b o q (ne_hd b nb), fun b o q n => ?_, g.w.sh, w.s0.trans s2, hb, fun b q => ?_, fun b o q nb => hkeep b o (w.fr b o q nb) (ne_hd b nb), fun b o q n => ?_⟩ rr
      · rcases inn b o q n with z | z
        · rw [z, oa.ns] at q
          cases q
        · exact z
      · rw [ehd] at q
        cases q
        exact oa.ns
      · cases q2 : S' b with
        | some u => exact w.nw b u q2 n
        | none =>
          rcases inn b o q q2 with z | z
          · rw [z, oa.ns] at q
            cases q
          · cases r2 : E'.H0 b with
            | none => rfl
            | some u =>
              by_cases eb : E'.hd = some b
              · rw [ehd] at eb
                cases eb
                rw [oa.ns] at q
                cases q
              · rw [w.fr b u r2 eb] at z
                cases z
end DL
set_option Elab.async false
set_option linter.all false
set_option maxRecDepth 100000
set_option maxHeartbeats 4000000
/-! DLK: things laid into the lists of a dict: for n, m in enumerate(ms): r = d.setdefault(m, []); r.append(e). -/
namespace DL
open PySem PySem.Spec PyProof.Rows L2
/-- the thing d goes into the list at m -/
def grpAdd (kvs : List (Nat × List D)) (m : Nat) (d : D) : List (Nat × List D) := if kvs.any (fun p => decide (p.1 = m)) then kvs.map (fun p => if p.1 = m then (p.1, p.2 ++ [d]) else p) else kvs ++ [(m, [d])]
def grpN (f : Nat → D) (ms : List Nat) : Nat → List (Nat × List D)
  | 0 => []
  | n + 1 => grpAdd (grpN f ms n) (ms.getD n 0) (f n)
def grpD (kvs : List (Nat × List D)) : List (D × D) := kvs.map fun p => (.int (p.1 : Int), .lst p.2)
theorem grpAdd_len (kvs : List (Nat × List D)) (m : Nat) (d : D) : (grpAdd kvs m d).length ≤ kvs.length + 1 := by
  unfold grpAdd
  split
  · rw [List.length_map]; omega
  · rw [List.length_append]; exact Nat.le_refl _
theorem grpN_len (f : Nat → D) (ms : List Nat) : ∀ n, (grpN f ms n).length ≤ n
  | 0 => Nat.le_refl _
  | n + 1 => Nat.le_trans (grpAdd_len _ _ _) (Nat.succ_le_succ (grpN_len f ms n))
theorem row_len {kvs : List (Nat × List D)} {m : Nat} {d : D} {N : Nat} (h : ∀ p ∈ kvs, p.2.length ≤ N) : ∀ p ∈ grpAdd kvs m d, p.2.length ≤ N + 1 := by
  intro p hp
  unfold grpAdd at hp
  split at hp
  · obtain ⟨q, hq, rfl⟩ := List.mem_map.mp hp
    have := h q hq
    split
    · rw [List.length_append, List.length_singleton]; omega
    · omega
  · rcases List.mem_append.mp hp with hp | hp
    · have := h p hp; omega
    · cases List.mem_singleton.mp hp
      simp
theorem grpN_row (f : Nat → D) (ms : List Nat) : ∀ n, ∀ p ∈ grpN f ms n, p.2.length ≤ n
  | 0 => fun p hp => by cases hp
  | n + 1 => row_len (grpN_row f ms n)
/-- found -/
theorem grpAdd_at {kvs : List (Nat × List D)} (nd : (kvs.map (·.1)).Nodup) {i m : Nat} {r : List D} {d : D} (h : kvs[i]? = some (m, r)) : grpAdd kvs m d = kvs.set i (m, r ++ [d]) := by
  unfold grpAdd
  have ha : kvs.any (fun p => decide (p.1 = m)) = true := List.any_eq_true.mpr ⟨(m, r), List.mem_of_getElem? h, decide_eq_true rfl⟩
  rw [if_pos ha]
  refine List.ext_getElem? fun j => ?_
  rw [List.getElem?_map, List.getElem?_set]
  by_cases e : i = j
  · subst e
    rw [if_pos rfl, if_pos (List.getElem?_eq_some_iff.mp h).1, h]
    simp
  · rw [if_neg e]
    cases q : kvs[j]? with
    | none => rfl
    | some p =>
      show some (if p.1 = m then (p.1, p.2 ++ [d]) else p) = some p
      rw [if_neg]
      intro z
      apply e
      have h1 : (kvs.map (·.1))[i]? = some m := by rw [List.getElem?_map, h]; rfl
      have h2 : (kvs.map (·.1))[j]? = some m := by rw [List.getElem?_map, q, ← z]; rfl
      have l1 := (List.getElem?_eq_some_iff.mp h1).1
      exact (List.getElem?_inj l1 nd).mp (h1.trans h2.symm)
theorem grpAdd_new {kvs : List (Nat × List D)} {m : Nat} {d : D} (h : ∀ p ∈ kvs, p.1 ≠ m) : grpAdd kvs m d = kvs ++ [(m, [d])] := by
  unfold grpAdd
  rw [if_neg]
  intro z
  obtain ⟨p, hp, e⟩ := List.any_eq_true.mp z
  exact h p hp (of_decide_eq_true e)
theorem grpAdd_keys {kvs : List (Nat × List D)} (m : Nat) (d : D) : (grpAdd kvs m d).map (·.1) = if kvs.any (fun p => decide (p.1 = m)) then kvs.map (·.1) else kvs.map (·.1) ++ [m] := by
  unfold grpAdd
  split
  · rw [List.map_map]
    refine List.map_congr_left fun p _ => ?_
    show (if p.1 = m then (p.1, p.2 ++ [d]) else p).1 = p.1
    split <;> rfl
  · rw [List.map_append]
    rfl
/-- what the heap's dict holds -/
def gq : List (Nat × List D) → List Addr → List (Key × V)
  | p :: kvs, b :: bs => (Sum.inl (p.1 : Int), V.ref b) :: gq kvs bs
  | _, _ => []
theorem gq_look : ∀ {kvs : List (Nat × List D)} {bs : List Addr} {m : Nat}, bs.length = kvs.length →
    (∀ v, valV (gq kvs bs) (Sum.inl (m : Int)) = some v → ∃ (i : Nat) (b : Addr) (r : List D), bs[i]? = some b ∧ kvs[i]? = some (m, r) ∧ v = .ref b) ∧ (valV (gq kvs bs) (Sum.inl (m : Int)) = none → ∀ p ∈ kvs, p.1 ≠ m)
  | [], [], m, _ => ⟨fun v h => (by cases h), fun _ p hp => by cases hp⟩
  | p :: kvs, b :: bs, m, h => by
    have ih := gq_look (m := m) (show bs.length = kvs.length by simpa using h)
    show (∀ v, valV ((Sum.inl (p.1 : Int), V.ref b) :: gq kvs bs) _ = some v → _) ∧ _
    by_cases e : p.1 = m
    · subst e
      have hv : valV ((Sum.inl (p.1 : Int), V.ref b) :: gq kvs bs) (Sum.inl (p.1 : Int)) = some (.ref b) := valV_pos rfl
      refine ⟨fun v q => ⟨0, b, p.2, rfl, rfl, ?_⟩, fun q => ?_⟩
      · rw [hv] at q
        exact (Option.some.inj q).symm
      · rw [show valV (gq (p :: kvs) (b :: bs)) _ = _ from hv] at q
        cases q
    · have hv : valV ((Sum.inl (p.1 : Int), V.ref b) :: gq kvs bs) (Sum.inl (m : Int)) = valV (gq kvs bs) (Sum.inl (m : Int)) := valV_neg (fun z => e (by
        have z : (Sum.inl (p.1 : Int) : Key) = Sum.inl (m : Int) := z
        injection z with z
        omega))
      refine ⟨fun v q => ?_, fun q => ?_⟩
      · rw [hv] at q
        obtain ⟨i, b', r, h1, h2, h3⟩ := ih.1 v q
        exact ⟨i + 1, b', r, h1, h2, h3⟩
      · rw [show valV (gq (p :: kvs) (b :: bs)) _ = _ from hv] at q
        intro x hx
        rcases List.mem_cons.mp hx with rfl | hx
        · exact e
        · exact ih.2 q x hx
theorem gq_len : ∀ {kvs : List (Nat × List D)} {bs : List Addr}, bs.length = kvs.length → (gq kvs bs).length = kvs.length
  | [], [], _ => rfl
  | p :: kvs, b :: bs, h => by
    show (gq kvs bs).length + 1 = _
    rw [gq_len (by simpa using h)]
    rfl
theorem gq_snoc : ∀ {kvs : List (Nat × List D)} {bs : List Addr} (p : Nat × List D) (b : Addr), bs.length = kvs.length → gq (kvs ++ [p]) (bs ++ [b]) = gq kvs bs ++ [(Sum.inl (p.1 : Int), V.ref b)]
  | [], [], _, _, _ => rfl
  | p :: kvs, b :: bs, p', b', h => by
    show _ :: gq (kvs ++ [p']) (bs ++ [b']) = _
    rw [gq_snoc p' b' (by simpa using h)]
    rfl
theorem gq_set : ∀ {kvs : List (Nat × List D)} {bs : List Addr} {i m : Nat} {r r' : List D}, kvs[i]? = some (m, r) → gq (kvs.set i (m, r')) bs = gq kvs bs
  | [], _, _, _, _, _, h => by cases h
  | p :: kvs, [], 0, m, r, r', h => rfl
  | p :: kvs, [], i + 1, m, r, r', h => rfl
  | p :: kvs, b :: bs, 0, m, r, r', h => by
    have h : p = (m, r) := Option.some.inj h
    subst h
    rfl
  | p :: kvs, b :: bs, i + 1, m, r, r', h => by
    show _ :: gq (kvs.set i (m, r')) bs = _
    rw [gq_set (show kvs[i]? = some (m, r) from h)]
    rfl
/-- no slot holds an own object -/
def NoOw (ρ : Rho) : Prop := ∀ (i : Nat) (o : Ob), ρ[i]? ≠ some (Sl.ow o)
section
variable {K : PySem.W.Frag} {E : Ent} {S H S' H' : Hp} {ρ : Rho} {σ : L2.St} {a b : Addr}
theorem EnvOk.wr (g : EnvOk K E S H ρ σ) (no : NoOw ρ) (nh : E.hd ≠ some b) (f0 : E.H0 b = none) (sp : S b = none) (o : HO) : EnvOk K E S (upd H b o) ρ σ :=
  ⟨g.w.write nh f0 sp o, g.len, g.sh, fun i o q => (no i o q).elim, fun i _ o _ _ q => (no i o q).elim⟩
theorem EnvOk.shr (g : EnvOk K E S H ρ σ) (no : NoOw ρ) {l : List D} (oa : OwnAt K E S H b (.lst l)) : ∃ u, H b = some u ∧ EnvOk K E (upd S b u) H ρ σ ∧ Rep K E.hd (upd S b u) (.lst l) (.ref b) := by
  obtain ⟨u, e, r⟩ := oa.d rfl
  have eS : Same S (upd S b u) := fun c x e => by rw [upd_ne (ne_of_none e oa.ns)]; exact e
  refine ⟨u, e, ⟨g.w.share oa.nh oa.f0 oa.ns e, g.len, fun i d q => ?_, fun i o q => (no i o q).elim, fun i _ o _ _ q => (no i o q).elim⟩, r⟩
  obtain ⟨v, a1, a2⟩ := g.sh i d q
  exact ⟨v, a1, a2.mono eS⟩
/-- a dict of own lists -/
structure GrpAt (K : PySem.W.Frag) (E : Ent) (S H : Hp) (a : Addr) (kvs : List (Nat × List D)) (bs : List Addr) : Prop where
  f0 : E.H0 a = none
  ns : S a = none
  nh : E.hd ≠ some a
  len : bs.length = kvs.length
  nd : bs.Nodup
  na : a ∉ bs
  kd : (kvs.map (·.1)).Nodup
  hd : H a = some (.dK (gq kvs bs))
  ats : ∀ (i : Nat) (b : Addr) (p : Nat × List D), bs[i]? = some b → kvs[i]? = some p → OwnAt K E S H b (.lst p.2)
theorem GrpAt.go {kvs : List (Nat × List D)} {bs : List Addr} (h : GrpAt K E S H a kvs bs) (g : Go K E S H S' H') : GrpAt K E S' H' a kvs bs := by
  refine ⟨h.f0, ?_, h.nh, h.len, h.nd, h.na, h.kd, g.h a _ h.hd h.nh, fun i b p q r => (h.ats i b p q r).go g⟩
  cases q : S' a with
  | none => rfl
  | some u =>
    have z := g.nw a u q h.ns
    rw [h.hd] at z
    cases z
theorem GrpAt.get {kvs : List (Nat × List D)} {bs : List Addr} (h : GrpAt K E S H a kvs bs) {i : Nat} {b : Addr} (hb : bs[i]? = some b) : ∃ p, kvs[i]? = some p := by
  have := (List.getElem?_eq_some_iff.mp hb).1
  exact ⟨kvs[i]'(by rw [← h.len]; exact this), List.getElem?_eq_getElem _⟩
/-- a list of it is written -/
theorem GrpAt.wr {kvs : List (Nat × List D)} {bs : List Addr} (h : GrpAt K E S H a kvs bs) {i m : Nat} {r : List D} {xs : List V} {d : D} {v : V} (hb : bs[i]? = some b) (hk : kvs[i]? = some (m, r)) (hx : Reps K E.hd S r xs) (rd : Rep K E.hd S d v) :
    GrpAt K E S (upd H b (.lst (xs ++ [v]))) a (kvs.set i (m, r ++ [d])) bs := by
  have hbm : b ∈ bs := List.mem_of_getElem? hb
  have nab : a ≠ b := fun z => h.na (z ▸ hbm)
  refine ⟨h.f0, h.ns, h.nh, by rw [List.length_set]; exact h.len, h.nd, h.na, ?_, by rw [upd_ne nab, gq_set hk]; exact h.hd, fun j c p hc hp => ?_⟩
  · have : (kvs.set i (m, r ++ [d])).map (·.1) = kvs.map (·.1) := by
      rw [List.map_set]
      refine List.ext_getElem? fun j => ?_
      rw [List.getElem?_set]
      by_cases e : i = j
      · subst e
        rw [if_pos rfl, List.getElem?_map, hk]
        have := (List.getElem?_eq_some_iff.mp hk).1
        rw [if_pos (by rw [List.length_map]; exact this)]
        rfl
      · rw [if_neg e]
    rw [this]
    exact h.kd
  · by_cases e : i = j
    · subst e
      rw [hb] at hc
      cases hc
      rw [List.getElem?_set_self (List.getElem?_eq_some_iff.mp hk).1] at hp
      cases hp
      have oa := h.ats i b _ hb hk
      exact ⟨oa.f0, oa.ns, oa.nh, xs ++ [v], upd_same, Reps.app hx (Reps.cons rd Reps.nil)⟩
    · rw [List.getElem?_set_ne e] at hp
      have oa := h.ats j c p hc hp
      have ncb : c ≠ b := fun z => by
        subst z
        exact e ((List.getElem?_inj (List.getElem?_eq_some_iff.mp hb).1 h.nd).mp (hb.trans hc.symm))
      exact ⟨oa.f0, oa.ns, oa.nh, oa.own.same (Same.refl _) fun u q => by rw [upd_ne ncb]; exact q⟩
/-- a new list is laid in -/
theorem GrpAt.add {kvs : List (Nat × List D)} {bs : List Addr} {p : Addr} {m : Nat} (h : GrpAt K E S H a kvs bs) (w : Wld K E S H) (hp : H p = none) (hm : ∀ q ∈ kvs, q.1 ≠ m) :
    GrpAt K E S (upd (upd H p (.lst [])) a (.dK (gq kvs bs ++ [(Sum.inl (m : Int), V.ref p)]))) a (kvs ++ [(m, [])]) (bs ++ [p]) := by
  have nap : a ≠ p := ne_of_none h.hd hp
  have hpb : p ∉ bs := fun z => by
    obtain ⟨i, hi⟩ := List.mem_iff_getElem?.mp z
    obtain ⟨q, hq⟩ := h.get hi
    obtain ⟨u, hu⟩ := (h.ats i p q hi hq).own.some
    rw [hp] at hu
    cases hu
  refine ⟨h.f0, h.ns, h.nh, by rw [List.length_append, List.length_append, h.len]; rfl, ?_, ?_, ?_, by rw [upd_same, gq_snoc _ _ h.len], fun j c q hc hq => ?_⟩
  · refine List.nodup_append.mpr ⟨h.nd, List.pairwise_singleton _ _, fun x hx y hy e => ?_⟩
    cases List.mem_singleton.mp hy
    exact hpb (e ▸ hx)
  · intro z
    rcases List.mem_append.mp z with z | z
    · exact h.na z
    · exact nap (List.mem_singleton.mp z)
  · rw [List.map_append]
    refine List.nodup_append.mpr ⟨h.kd, List.pairwise_singleton _ _, fun x hx y hy e => ?_⟩
    cases List.mem_singleton.mp hy
    obtain ⟨q, hq, e2⟩ := List.mem_map.mp hx
    exact hm q hq (e2.trans e)
  · by_cases e : j < bs.length
    · rw [List.getElem?_append_left e] at hc
      rw [List.getElem?_append_left (by rw [← h.len]; exact e)] at hq
      have oa := h.ats j c q hc hq
      have n1 : c ≠ p := fun z => hpb (z ▸ List.mem_of_getElem? hc)
      have n2 : c ≠ a := fun z => h.na (z ▸ List.mem_of_getElem? hc)
      exact ⟨oa.f0, oa.ns, oa.nh, oa.own.same (Same.refl _) fun u q => by rw [upd_ne n2, upd_ne n1]; exact q⟩
    · have hj := (List.getElem?_eq_some_iff.mp hc).1
      rw [List.length_append, List.length_singleton] at hj
      have ej : j = bs.length := by omega
      subst ej
      rw [List.getElem?_append_right (Nat.le_refl _), Nat.sub_self] at hc
      cases hc
      rw [List.getElem?_append_right (by rw [h.len]; exact Nat.le_refl _), h.len, Nat.sub_self] at hq
      cases hq
      exact ⟨w.f0 hp, w.sh.free hp, w.nhd hp, [], by rw [upd_ne (Ne.symm nap), upd_same], rfl⟩
/-- all its lists are shared -/
theorem share_all : ∀ (kvs : List (Nat × List D)) (bs : List Addr) (S : Hp), bs.length = kvs.length → bs.Nodup → NoOw ρ → EnvOk K E S H ρ σ → (∀ (i : Nat) (b : Addr) (p : Nat × List D), bs[i]? = some b → kvs[i]? = some p → OwnAt K E S H b (.lst p.2)) →
    ∃ S', Same S S' ∧ EnvOk K E S' H ρ σ ∧ (∀ c, c ∉ bs → S c = none → S' c = none) ∧ PK K E.hd S' (grpD kvs) (gq kvs bs)
  | [], [], S, _, _, _, g, _ => ⟨S, Same.refl _, g, fun _ _ h => h, .nil⟩
  | p :: kvs, b :: bs, S, hl, nd, no, g, ha => by
    obtain ⟨n1, n2⟩ := List.nodup_cons.mp nd
    have oa := ha 0 b p rfl rfl
    obtain ⟨u, hu, g1, r1⟩ := g.shr no oa
    have eS : Same S (upd S b u) := fun c x e => by rw [upd_ne (ne_of_none e oa.ns)]; exact e
    obtain ⟨S', s1, g2, hn, pk⟩ := share_all kvs bs (upd S b u) (by simpa using hl) n2 no g1 fun i c q hc hq => by
      have oc := ha (i + 1) c q hc hq
      have ncb : c ≠ b := fun z => n1 (z ▸ List.mem_of_getElem? hc)
      exact ⟨oc.f0, by rw [upd_ne ncb]; exact oc.ns, oc.nh, oc.own.same eS fun u q => q⟩
    refine ⟨S', eS.trans s1, g2, fun c hc hS => hn c (fun z => hc (List.mem_cons_of_mem _ z)) ?_, ?_⟩
    · rw [upd_ne (fun z => hc (by rw [z]; exact List.mem_cons_self))]
      exact hS
    · exact .cons ⟨⟨_, rfl, rfl⟩, Rep.mono s1 r1⟩ pk
/-- less is told of the slots -/
theorem EnvOk.weak {ρ' : Rho} (g : EnvOk K E S H ρ σ) (hl : ρ'.length = ρ.length) (h : ∀ (i : Nat) (s : Sl), ρ'[i]? = some s → s = .no ∨ ρ[i]? = some s) : EnvOk K E S H ρ' σ := by
  have hs : ∀ {i : Nat} {o : Ob}, ρ'[i]? = some (Sl.ow o) → ρ[i]? = some (Sl.ow o) := fun {i o} q => (h i _ q).elim (fun z => nomatch z) id
  refine ⟨g.w, g.len.trans hl.symm, fun i d q => ?_, fun i o q => g.ow i o (hs q), fun i i' o o' c q q' => g.dj i i' o o' c (hs q) (hs q')⟩
  rcases h i _ q with z | z
  · cases z
  · exact g.sh i d z
theorem EnvOk.own1 {ob : Ob} {j : Nat} (g : EnvOk K E S H ρ σ) (no : NoOw ρ) (hσ : σ[j]? = some (some (V.ref a))) (oa : OwnAt K E S H a ob) : EnvOk K E S H (ρ.set j (.ow ob)) σ := by
  have hj : j < ρ.length := by
    rw [← g.len]
    exact (List.getElem?_eq_some_iff.mp hσ).1
  refine ⟨g.w, by rw [List.length_set]; exact g.len, fun i d q => ?_, fun i o q => ?_, fun i i' o o' c q q' e1 e2 => ?_⟩
  · by_cases z : j = i
    · subst z
      rw [List.getElem?_set_self hj] at q
      cases q
    · rw [List.getElem?_set_ne z] at q
      exact g.sh i d q
  · by_cases z : j = i
    · subst z
      rw [List.getElem?_set_self hj] at q
      cases q
      exact ⟨a, hσ, oa⟩
    · rw [List.getElem?_set_ne z] at q
      exact (no i o q).elim
  · have h1 : j = i := Decidable.byContradiction fun z => by rw [List.getElem?_set_ne z] at q; exact no i o q
    have h2 : j = i' := Decidable.byContradiction fun z => by rw [List.getElem?_set_ne z] at q'; exact no i' o' q'
    exact h1.symm.trans h2
end
/-- the loop's rule: slots 2 the dict, 3 and 4 the number and the mark, 5 the list -/
theorem Ds.groups {F : Fam} {A0 A1 : D} {xc xn xm xr : Str} {iter elt : Expr} {k : Ek} {f : Nat → D} {ms : List Nat} {pos p1 p2 p3 p4 p5 p6 p7 p8 p9 tp : Pos} {kt : _}
    (tt : Tgt F (.Tuple [.Name xn p1, .Name xm p2] kt tp) (.names [3, 4]))
    (h : Di F [.sh A0, .sh A1, .ow (.dic none []), .no, .no, .no] (.Tuple [.Name xn p1, .Name xm p2] kt tp) iter fun ds => ds = enumD (ms.map fun (m : Nat) => D.int (m : Int)) ∧ k.nx [.sh A0, .sh A1, .ow (.dic none (grpD (grpN f ms ms.length))), .no, .no, .no])
    (hz : ms.length ≤ 100000) (he : ∀ n m : Nat, ms[n]? = some m → De F [.sh A0, .sh A1, .no, .sh (.int (n : Int)), .sh (.int (m : Int)), .no] elt fun d => d = f n)
    (hc : ∀ i, (F.cx i).N[2]? = some xc) (hm : ∀ i, (F.cx i).N[4]? = some xm) (hr : ∀ i, (F.cx i).N[5]? = some xr) (vc : ∀ i, Vis (F.cx i).env.scope xc) (vm : ∀ i, Vis (F.cx i).env.scope xm) (vr : ∀ i, (F.cx i).env.scope.names.lookup xr = some .local) (hN : ∀ i, (F.cx i).N.Nodup)
    (c1 : (xc == ("__debug__" : Str)) = false) (c2 : (xc == ("__classdict__" : Str)) = false) (m1 : (xm == ("__debug__" : Str)) = false) (m2 : (xm == ("__classdict__" : Str)) = false) (r1 : (xr == ("__debug__" : Str)) = false) (r2 : (xr == ("__classdict__" : Str)) = false)
    (hsd : ∀ i, M2 (F.cx i) (.Name xc p3) "setdefault" p4 (.Name xm p5) (.List [] p6) p7)
    (hs1 : ∀ i, swapsWith (.Call (.Attribute (.Name xc p3) "setdefault" p4) [.Name xm p5, .List [] p6] [] p7) (some (.Name xr p8)) p9.line (F.cx i).env = pure false)
    (ap1 : ∀ i, starEach [elt] (F.cx i).env = (false, eval elt (F.cx i).env) :: starEach [] (F.cx i).env)
    {q1 q2 q3 q4 : Pos}
    (ap2 : ∀ i, ((backTo q3 (starEach [elt] (F.cx i).env)).all (fun x => !x.1) && (backToKw q3 (keywordEach [] (F.cx i).env)).all (fun x => x.1.isSome) && decide ([elt].length + ([] : List Keyword).length + (if ([] : List Keyword).isEmpty then 0 else 1) < 30)) = true)
    (ap3 : ∀ i, (backTo q3 (starEach [] (F.cx i).env)).any (·.1) = false) (ap4 : ∀ i, attributeBase (.Name xr q1) "append" (F.cx i).env (eval (.Name xr q1) (F.cx i).env) = eval (.Name xr q1) (F.cx i).env) (ap5 : (q2.endLine == q3.line) = true)
    (hs2 : ∀ i, swapsWith (.Call (.Attribute (.Name xr q1) "append" q2) [elt] [] q3) none q4.line (F.cx i).env = pure false)
    (hp : ∀ i, PassesOwn (model (F.cx i).prog (F.cx i).w) (F.cx i).A (F.cx i).env (F.cx i).xe) (hfs : ∀ i x, foldedSetIterable iter (F.cx i).env x = pure x) :
    Ds F [.sh A0, .sh A1, .ow (.dic none []), .no, .no, .no] (.For (.Tuple [.Name xn p1, .Name xm p2] kt tp) iter
      [.Assign [.Name xr p8] (.Call (.Attribute (.Name xc p3) "setdefault" p4) [.Name xm p5, .List [] p6] [] p7) p9,
       .Expr (.Call (.Attribute (.Name xr q1) "append" q2) [elt] [] q3) q4] [] pos) k := fun i => by
  have b1 : PS (F.cx i) (.Assign [.Name xr p8] (.Call (.Attribute (.Name xc p3) "setdefault" p4) [.Name xm p5, .List [] p6] [] p7) p9) _ :=
    ps_set (hN i) (hr i) (.inl (vr i)) (pe_dsetd (pe_var (pos := p3) (hc i) (vc i) c1 c2) (pe_var (pos := p5) (hm i) (vm i) m1 m2) (pe_lst (pos := p6) pa_nil) (hsd i)) (hs1 i) (.inr (vr i))
  have b2 : PS (F.cx i) (.Expr (.Call (.Attribute (.Name xr q1) "append" q2) [elt] [] q3) q4) _ :=
    ps_expr (pe_bm PySem.F.plainAttrs_list PySem.F.slot_list_append PySem.F.type_list_append mt_append (pe_var (pos := q1) (hr i) (.inl (vr i)) r1 r2) (pa_cons pe_all pa_nil (ap1 i)) (ap4 i) (ap2 i) ap5 (ap1 i) (ap3 i)) (hs2 i)
  refine Ds1.of (ps_for (hp i) (F.calm i) pi_all (tt.ok i) (pss_cons b1 (pss_one b2)) (hfs i)) fun E S H σ D' g q => ?_
  refine ⟨_, _, h i, E, S, g, fun ds J S1 H1 hq g1 wd => ?_⟩
  obtain ⟨rfl, hnx⟩ := hq
  have no : NoOw [Sl.sh A0, .sh A1, .no, .no, .no, .no] := fun i o z => by
    match i, z with
    | 0, z => cases z
    | 1, z => cases z
    | 2, z => cases z
    | 3, z => cases z
    | 4, z => cases z
    | 5, z => cases z
    | i + 6, z => cases z
  have no' : ∀ x y : D, NoOw [Sl.sh A0, .sh A1, .no, .sh x, .sh y, .no] := fun x y i o z => by
    match i, z with
    | 0, z => cases z
    | 1, z => cases z
    | 2, z => cases z
    | 3, z => cases z
    | 4, z => cases z
    | 5, z => cases z
    | i + 6, z => cases z
  have g0 := g.go g1
  obtain ⟨a, hσ, oa⟩ := g0.ow 2 _ rfl
  have hgrp0 : GrpAt (F.cx i).K E S1 H1 a [] [] := by
    obtain ⟨q', e, rq⟩ := oa.own
    cases rq
    exact ⟨oa.f0, oa.ns, oa.nh, rfl, List.nodup_nil, by simp, List.nodup_nil, e, fun j c p hc => by cases hc⟩
  have gn : EnvOk (F.cx i).K E S1 H1 [.sh A0, .sh A1, .no, .no, .no, .no] σ := by
    have z := g0.unset 2 (some (.ref a))
    have e : σ.set 2 (some (.ref a)) = σ := by
      refine List.ext_getElem? fun j => ?_
      rw [List.getElem?_set]
      by_cases c : 2 = j
      · subst c
        rw [if_pos rfl, if_pos (List.getElem?_eq_some_iff.mp hσ).1, hσ]
      · rw [if_neg c]
    rw [e] at z
    exact z
  refine ⟨fun n m σ' H' => ∃ S' bs, m = ms.length - n ∧ n ≤ ms.length ∧ EnvOk (F.cx i).K E S' H' [.sh A0, .sh A1, .no, .no, .no, .no] σ' ∧ Same S1 S' ∧ σ'[2]? = some (some (.ref a)) ∧ GrpAt (F.cx i).K E S' H' a (grpN f ms n) bs, ⟨ms.length, S1, [], by simp, Nat.zero_le _, gn, Same.refl _, hσ, hgrp0⟩, ?_⟩
  rintro n m σ' H' ⟨S', bs, rfl, hn, g2, s2, hσ2, gr⟩
  have wk := wd S' H' g2.w s2
  have hl : (enumD (ms.map fun (m : Nat) => D.int (m : Int))).length = ms.length := by rw [enumD_len, List.length_map]
  by_cases hlt : n < ms.length
  · obtain ⟨m, hm0⟩ : ∃ m, ms[n]? = some m := ⟨ms[n], List.getElem?_eq_getElem hlt⟩
    have hd : (enumD (ms.map fun (m : Nat) => D.int (m : Int)))[n]? = some (.tup [.int (n : Int), .int (m : Int)]) := by
      unfold enumD
      rw [List.getElem?_map, List.getElem?_zipIdx, List.getElem?_map, hm0]
      simp
    obtain ⟨hgo, hyl⟩ := wk.1 n _ hd
    refine .inr ⟨hgo, fun σ2 H2 => ∃ S2 bs, EnvOk (F.cx i).K E S2 H2 [.sh A0, .sh A1, .no, .no, .no, .no] σ2 ∧ Same S1 S2 ∧ σ2[2]? = some (some (.ref a)) ∧ GrpAt (F.cx i).K E S2 H2 a (grpN f ms (n + 1)) bs,
      fun σ2 H2 ⟨S2, bs, x1, x2, x3, x4⟩ => ⟨ms.length - (n + 1), by omega, S2, bs, rfl, hlt, x1, x2, x3, x4⟩, fun x H3 hx => ?_⟩
    obtain ⟨S3, g3, r3⟩ := hyl x H3 hx
    obtain ⟨T, xs, rfl, eT, v1, t1, rfl, rv1, v2, t2, rfl, rv2, ht⟩ := r3
    cases (show t2 = _ from ht)
    cases (show v1 = _ from rv1)
    cases (show v2 = _ from rv2)
    have g4 : EnvOk (F.cx i).K E S3 H3 [.sh A0, .sh A1, .no, .sh (.int (n : Int)), .sh (.int (m : Int)), .no] ((σ'.set 3 (some (.int (n : Int)))).set 4 (some (.int (m : Int)))) :=
      EnvOk.set 4 (d := .int (m : Int)) (EnvOk.set 3 (d := .int (n : Int)) (g2.go g3) rfl) rfl
    have lenσ : σ'.length = 6 := g2.len
    have s4 : ((σ'.set 3 (some (V.int (n : Int)))).set 4 (some (V.int (m : Int))))[4]? = some (some (.int (m : Int))) := by
      rw [List.getElem?_set_self (by rw [List.length_set]; omega)]
    have s2' : ((σ'.set 3 (some (V.int (n : Int)))).set 4 (some (V.int (m : Int))))[2]? = some (some (.ref a)) := by
      rw [List.getElem?_set_ne (by decide), List.getElem?_set_ne (by decide)]
      exact hσ2
    have gr3 := gr.go g3
    refine ⟨T, [.int (n : Int), .int (m : Int)], rfl, Same.sqT g3.w.sh eT, rfl, ?_⟩
    refine ⟨_, _, rfl, _, _, rfl, rfl, ?_⟩
    show tSeq (tAsg (tDSetd (tVar 2) (tVar 4) (tLst tNil)) (gName 5)) _ _ ((σ'.set 3 (some (V.int (n : Int)))).set 4 (some (V.int (m : Int)))) H3
    generalize (σ'.set 3 (some (V.int (n : Int)))).set 4 (some (V.int (m : Int))) = σ4 at *
    have len4 : σ4.length = 6 := g4.len
    have hrow := grpN_row f ms n
    have app : ∀ (H5 : Hp) (kvs5 : List (Nat × List D)) (bs5 : List Addr) (j : Nat) (b : Addr) (r : List D), EnvOk (F.cx i).K E S3 H5 [.sh A0, .sh A1, .no, .sh (.int (n : Int)), .sh (.int (m : Int)), .no] σ4 → GrpAt (F.cx i).K E S3 H5 a kvs5 bs5 → bs5[j]? = some b → kvs5[j]? = some (m, r) → r.length < sizeLine →
        kvs5.set j (m, r ++ [f n]) = grpN f ms (n + 1) → tDrop (tBM (F.cx i).K "list" rAppend (tVar 5) (tCons (tAll (F.cx i) elt) tNil)) { nx := fun σ2 H2 => ∃ S2 bs, EnvOk (F.cx i).K E S2 H2 [.sh A0, .sh A1, .no, .no, .no, .no] σ2 ∧ Same S1 S2 ∧ σ2[2]? = some (some (.ref a)) ∧ GrpAt (F.cx i).K E S2 H2 a (grpN f ms (n + 1)) bs, rt := D'.rt, bk := D'.nx, ct := fun σ2 H2 => ∃ S2 bs, EnvOk (F.cx i).K E S2 H2 [.sh A0, .sh A1, .no, .no, .no, .no] σ2 ∧ Same S1 S2 ∧ σ2[2]? = some (some (.ref a)) ∧ GrpAt (F.cx i).K E S2 H2 a (grpN f ms (n + 1)) bs } (σ4.set 5 (some (.ref b))) H5 := by
      intro H5 kvs5 bs5 j b r e5 gr5 hb hk hlen hnew
      have e5' : EnvOk (F.cx i).K E S3 H5 [.sh A0, .sh A1, .no, .sh (.int (n : Int)), .sh (.int (m : Int)), .no] (σ4.set 5 (some (.ref b))) := e5.unset 5 (some (.ref b))
      obtain ⟨xs0, e0, r0⟩ := (gr5.ats j b _ hb hk).own
      refine ⟨.ref b, by rw [List.getElem?_set_self (by omega)], .inl ⟨rfl, xs0, .of e0⟩, (he n m hm0).all e5' fun d v S6 H6 qd g6 rd => ?_⟩
      subst qd
      have gr6 := gr5.go g6
      have oa6 := gr6.ats j b _ hb hk
      obtain ⟨xs, ex, rx⟩ := oa6.own
      refine ⟨b, xs, v, rfl, rfl, ex, by rw [← Reps.length rx]; exact hlen, S6, bs5, ?_, (s2.trans g3.s).trans g6.s, ?_, ?_⟩
      · refine (EnvOk.wr (e5'.go g6) (no' _ _) oa6.nh oa6.f0 oa6.ns _).weak rfl fun l s z => ?_
        match l, z with
        | 0, z => exact .inr z
        | 1, z => exact .inr z
        | 2, z => exact .inr z
        | 3, z => exact .inl (Option.some.inj z).symm
        | 4, z => exact .inl (Option.some.inj z).symm
        | 5, z => exact .inr z
        | l + 6, z => cases z
      · rw [List.getElem?_set_ne (by decide)]
        exact s2'
      · rw [← hnew]
        exact gr6.wr hb hk rx rd
    have hk0 := grpN_len f ms n
    refine ⟨_, s2', a, rfl, .inl ⟨_, .inl gr3.hd⟩, _, s4, Nat.zero_le _, fun p hp => ⟨gq (grpN f ms n) bs, Sum.inl (m : Int), ?_, rfl, ?_, fun v hv => ?_, fun hv => ?_⟩⟩
    · rw [upd_ne (ne_of_none gr3.hd hp)]
      exact gr3.hd
    · rw [gq_len gr3.len, sizeLine_eq]
      omega
    · obtain ⟨j, b, r, hb, hk, rfl⟩ := (gq_look gr3.len).1 v hv
      have hr5 := hrow _ (List.mem_of_getElem? hk)
      refine app _ _ bs j b r (g4.go (g3.w.fresh hp)) (gr3.go (g3.w.fresh hp)) hb hk ?_ ?_
      · rw [sizeLine_eq]
        dsimp only at hr5
        omega
      · show _ = grpAdd _ _ _
        rw [List.getD_eq_getElem?_getD, hm0]
        exact (grpAdd_at gr3.kd hk).symm
    · have hne := (gq_look (m := m) gr3.len).2 hv
      rw [putK_new _ hv]
      have gf := g3.w.fresh (o := .lst []) hp
      refine app _ (grpN f ms n ++ [(m, [])]) (bs ++ [p]) bs.length p [] (EnvOk.wr (g4.go gf) (no' _ _) gr3.nh gr3.f0 (gr3.go gf).ns _) (gr3.add g3.w hp hne) ?_ ?_ ?_ ?_
      · rw [List.getElem?_append_right (Nat.le_refl _), Nat.sub_self]
        rfl
      · rw [gr3.len, List.getElem?_append_right (Nat.le_refl _), Nat.sub_self]
        rfl
      · rw [sizeLine_eq]
        exact Nat.le_of_ble_eq_true rfl
      · show _ = grpAdd _ _ _
        rw [List.getD_eq_getElem?_getD, hm0]
        refine Eq.trans ?_ (grpAdd_new hne).symm
        rw [gr3.len, List.set_append_right _ _ (Nat.le_refl _), Nat.sub_self]
        rfl
  · have en : n = ms.length := by omega
    subst en
    obtain ⟨S5, s5, g5, hn5, pk⟩ := share_all (grpN f ms ms.length) bs S' gr.len gr.nd no g2 gr.ats
    refine .inl ⟨by rw [← hl]; exact wk.2, q.nx _ S5 H' σ' hnx ((g1.s.trans s2).trans s5) (EnvOk.own1 g5 no hσ2 ⟨gr.f0, hn5 a gr.na gr.ns, gr.nh, _, gr.hd, pk⟩)⟩
end DL
set_option Elab.async false
set_option linter.all false
set_option maxRecDepth 100000
set_option maxHeartbeats 4000000
/-! DLW: a try whose first clause, as n, surely takes what is raised; whatever clauses stand behind. -/
namespace L2
open PySem PySem.Spec PyProof.Rows
/-- what is wished of the body's error: the first clause takes it -/
def wAsT (K : PySem.W.Frag) (c : Value) (i : Nat) (ts : Addr → Value → Option Addr → TS) (D : Ends) : WX := fun cls d σ H =>
  PySem.W.exmOne K cls c = some true ∧ ∀ a, H a = none → ts a cls d { nx := fun σ' H' => D.nx (σ'.set i none) H', rt := D.rt, bk := fun σ' H' => D.bk (σ'.set i none) H', ct := fun σ' H' => D.ct (σ'.set i none) H' } (σ.set i (some (.ref a))) H
section
variable {X : Cx} {x n : Str} {c : Value} {i : Nat} {body suite : List Stmt} {b₀ : Stmt} {np pos pos' : Pos} {hds : List ExceptHandler} {tb : WX → TS} {ts : Addr → Value → Option Addr → TS}
theorem ps_try_asT (hs : X.stack = X.env :: X.outer) (hf : X.env.frame = some X.env.locals) (hN : X.N.Nodup) (hi : X.N[i]? = some n) (hln : X.env.kindOf n = some .local) (hc : Names X x c)
    (hb : ∀ (W : WX) (pn : List (Addr × Obj)) (xe : Value → Shared → Prop), Takes (X.tr pn xe) W → PassesOwn (model X.prog X.w) X.A X.env xe → PSs (X.tr pn xe) body (tb W))
    (hsu : ∀ (a : Addr) (oe : Obj) (cls : Value) (d : Option Addr) (pn : List (Addr × Obj)), Zc cls d oe → (∃ vs, oe.data = .fields vs) → PSs (X.suite a ((a, oe) :: pn)) (b₀ :: suite) (ts a cls d)) :
    PS X (.Try body (.ExceptHandler (some (.Name x np)) (some n) (b₀ :: suite) pos' :: hds) [] [] pos) (fun D σ H => tb (wAsT X.K c i ts D) D σ H) := by
  refine ⟨fun pins s σ H D I h => ?_⟩
  have ok := I.ok
  have hfr : X.A.frames = some (X.env :: X.outer) := by rw [ok.frames, hs]
  have hloc : Loc X.env.scope n := .inl hln
  have hb' := hb (wAsT X.K c i ts D) (X.pn ++ pins) (fun e s₁ => wpAny (model X.prog X.w) X.A (noteFrame e X.env) (fun _ s₂ => wpAny (model X.prog X.w) X.A (setFlight e none) (fun _ s₃ =>
    wpAny (model X.prog X.w) X.A (handleBy e X.env (.ExceptHandler (some (.Name x np)) (some n) (b₀ :: suite) pos' :: hds)) (SP X pins D) X.xe s₃) X.xe s₂) X.xe s₁) (fun u s' xx => ?_) PassesOwn.looking
  · refine wpAny_Try_except (wpAny_mono (hb'.run [] s σ H D (I.toTry _) h) (fun f s1 hsp => ?_) fun e s1 he => he)
    cases f with
    | next =>
      obtain ⟨σ', H', J', q⟩ := hsp
      exact wpAny_execs_nil ⟨σ', H', J'.ofTry ok, q⟩
    | brk =>
      obtain ⟨σ', H', J', q⟩ := hsp
      exact ⟨σ', H', J'.ofTry ok, q⟩
    | cont =>
      obtain ⟨σ', H', J', q⟩ := hsp
      exact ⟨σ', H', J'.ofTry ok, q⟩
    | ret u =>
      obtain ⟨v, σ', H', J', r, q⟩ := hsp
      exact ⟨v, σ', H', J'.ofTry ok, r, q⟩
  · obtain ⟨a, B, sI, pins', σ', H', cls, d, rfl, J', nb, up, sky, na, os, ag, hb1, hyes⟩ := xx
    have J : Inv X pins σ' H' sI := J'.ofTry ok
    have sky' : Sky B (X.env :: X.outer) a (Zc cls d) X.env.locals s'.heap := by rw [← hs]; exact sky
    show wpAny (model X.prog X.w) X.A (noteFrame (.ref a) X.env) _ _ _
    refine Sky.land Zc.steady hfr hf sky' fun h3 fl3 up3 => ?_
    have J3 : Inv X pins σ' H' { s' with heap := h3 } := J.landed nb fl3.1 (up.trans up3) os ag
    obtain ⟨oe3, vs3, he3, hz3, hd3⟩ := fl3.there
    have nfr : a ∉ frs (X.env :: X.outer) := fun hm => by
      obtain ⟨_, o', e', hnf⟩ := fl3.2.2.1.mem hm
      rw [he3] at e'; cases e'
      exact hnf _ hd3
    have nL : a ≠ X.env.locals := fun z => nfr (List.mem_filterMap.mpr ⟨X.env, List.mem_cons_self, by rw [hf, z]⟩)
    have nF : a ∉ X.fs := fun hm => by
      obtain ⟨e, he, q⟩ := List.mem_filterMap.mp hm
      exact nfr (List.mem_filterMap.mpr ⟨e, List.mem_cons_of_mem _ he, q⟩)
    have S3 := J3.suite he3 hd3 na nL nF
    refine wpAny_handleBy_cons (codeAny_handlers_test ?_) (by intro q; cases q)
    have LT : PySem.W.Looks (model X.prog X.w) h3 (typeOf (.ref a)) cls := fun A Q E s k q => wpAny_typeOf_ref (k _ _ he3) (by rw [hz3.1]; exact q)
    have LM := PySem.W.exm_one (M := model X.prog X.w) (J3.kIn) LT hb1
    have test : ∀ {Q : Value → Shared → Prop} {E : Value → Shared → Prop}, Q c { s' with heap := h3 } → wpAny (model X.prog X.w) (X.A.mark (some (.ref a))) (eval (.Name x np) X.env) Q E { s' with heap := h3 } := fun {Q E} q => by
      obtain ⟨hg, hdbg, hm | ⟨hm, hv, hnn⟩⟩ := hc
      · exact ld_glob (X := X.suite a ((a, oe3) :: (X.pn ++ pins))) S3 hg hm q hdbg
      · exact ld_blt (X := X.suite a ((a, oe3) :: (X.pn ++ pins))) S3 hg hm hv q hnn hdbg
    refine test (LM.here ?_)
    refine codeAny_handlers_suite_as ?_
    refine HandSPX.lands_againZ fl3 fun h4 fl4 up4 => ?_
    have J4 : Inv X pins σ' H' { s' with heap := h4 } := J.landed nb fl4.1 ((up.trans up3).trans up4) os ag
    obtain ⟨oe4, vs4, he4, hz4, hd4⟩ := fl4.there
    have S4 := J4.suite he4 hd4 na nL nF
    refine store_ok (X := X.suite a ((a, oe4) :: (X.pn ++ pins))) (v := .ref a) S4 hN hi hloc rfl (fun s5 S5 => ?_) (.inr hln)
    refine wpAny_mono ((hsu a oe4 cls d (X.pn ++ pins) hz4 ⟨_, hd4⟩).run [] s5 _ H' _ S5 (hyes a na)) (fun f s6 hsp => ?_) (fun _ _ z => False.elim z)
    have end_ : ∀ {σ6 : St} {H6 : Hp} {Q : Shared → Prop}, Inv (X.suite a ((a, oe4) :: (X.pn ++ pins))) [] σ6 H6 s6 → (∀ s7, Inv X pins (σ6.set i none) H6 s7 → Q s7) →
        wpAny (model X.prog X.w) X.A (do bindName X.env n .none; unbindBehindTheSuite X.env n pos') (fun _ s7 => Q s7) X.xe s6 := fun {σ6 H6 Q} S6 hq => gone_ok (S6.unsuite ok) hN hi hln hq
    cases f with
    | next =>
      obtain ⟨σ6, H6, S6, q6⟩ := hsp
      exact end_ S6 fun s7 J7 => ⟨_, _, J7, q6⟩
    | brk =>
      obtain ⟨σ6, H6, S6, q6⟩ := hsp
      exact end_ S6 fun s7 J7 => ⟨_, _, J7, q6⟩
    | cont =>
      obtain ⟨σ6, H6, S6, q6⟩ := hsp
      exact end_ S6 fun s7 J7 => ⟨_, _, J7, q6⟩
    | ret u =>
      obtain ⟨v6, σ6, H6, S6, r6, q6⟩ := hsp
      exact end_ S6 fun s7 J7 => ⟨_, _, _, J7, r6, q6⟩
end
end L2
set_option Elab.async false
set_option linter.all false
set_option maxRecDepth 100000
set_option maxHeartbeats 4000000
/-! DLY: two blocks, one behind the other; what stays where the tables of code objects grow. -/
namespace L2
open PySem PySem.Spec PyProof.Rows
theorem execs_two (b : List Stmt) (env : Env) : ∀ a : List Stmt, execs (a ++ b) env = (execs a env >>= fun f => match f with | .next => execs b env | f => pure f)
  | [] => by
    rw [List.nil_append]
    show _ = (execs [] env >>= _)
    rw [show execs [] env = pure .next from by rw [execs], pure_bind]
  | st :: a => by
    rw [List.cons_append, execs_cons, execs_cons, bind_assoc]
    congr 1
    funext f
    cases f with
    | next => exact execs_two b env a
    | brk => exact (pure_bind _ _).symm
    | cont => exact (pure_bind _ _).symm
    | ret v => exact (pure_bind _ _).symm
theorem pss_app {X : Cx} {a b : List Stmt} {t u : TS} (h1 : PSs X a t) (h2 : PSs X b u) : PSs X (a ++ b) (tSeq t u) := by
  refine ⟨fun pins s σ H D I h => ?_⟩
  rw [execs_two]
  refine wpAny_bind (wpAny_mono (h1.run pins s σ H { D with nx := u D } I h) (fun f s1 q => ?_) fun _ _ z => z)
  cases f with
  | next =>
    obtain ⟨σ', H', I', q⟩ := q
    exact h2.run pins s1 σ' H' D I' q
  | brk => exact wpAny_pure q
  | cont => exact wpAny_pure q
  | ret v => exact wpAny_pure q
end L2
namespace DL
open PySem PySem.Spec PyProof.Rows L2
/-- all but tables stays -/
def KeepN (S S' : Hp) : Prop := ∀ b o, S b = some o → (∀ ps, o ≠ .tbl ps) → S' b = some o
theorem sqT_keepN {K : PySem.W.Frag} {S S' : Hp} {a : Addr} {xs : List V} (e : KeepN S S') (h : SqT K S a xs) : SqT K S' a xs := by
  rcases h with (h | ⟨o, h⟩) | h
  · exact .inl (.inl (e _ _ h fun ps z => by cases z))
  · exact .inl (.inr ⟨o, e _ _ h fun ps z => by cases z⟩)
  · exact .inr h
theorem sqL_keepN {K : PySem.W.Frag} {S S' : Hp} {a : Addr} {xs : List V} (e : KeepN S S') (h : SqL K S a xs) : SqL K S' a xs := by
  rcases h with (h | ⟨o, h⟩) | h
  · exact .inl (.inl (e _ _ h fun ps z => by cases z))
  · exact .inl (.inr ⟨o, e _ _ h fun ps z => by cases z⟩)
  · exact .inr h
section
variable {K : PySem.W.Frag} {hd : Option Addr} {S S' : Hp}
mutual
theorem Rep.keepN (e : KeepN S S') : ∀ {d : D} {v : V}, Rep K hd S d v → Rep K hd S' d v
  | .non, _, h => h
  | .bl _, _, h => h
  | .int _, _, h => h
  | .str _, _, h => h
  | .lst l, v, h => by
    obtain ⟨a, xs, h1, h2, h3⟩ := h
    exact ⟨a, xs, h1, e _ _ h2 (fun ps z => by cases z), Reps.keepN e h3⟩
  | .tup l, v, h => by
    obtain ⟨a, xs, h1, h2, h3⟩ := h
    exact ⟨a, xs, h1, sqT_keepN e h2, Reps.keepN e h3⟩
  | .ins C ns ds, v, h => by
    obtain ⟨a, dx, xs, h1, h2, h3, h4⟩ := h
    exact ⟨a, dx, xs, h1, e _ _ h2 (fun ps z => by cases z), h3, Reps.keepN e h4⟩
  | .hand, _, h => h
  | .raw _, _, h => h
  | .frl l, v, h => by
    obtain ⟨a, h1, h2⟩ := h
    exact ⟨a, h1, sqL_keepN e h2⟩
  | .vals l, v, h => by
    obtain ⟨a, od, h1, h2⟩ := h
    rcases h2 with ⟨q, h2, h3⟩ | ⟨w, q, h2, h3⟩
    · exact ⟨a, od, h1, .inl ⟨q, e _ _ h2 (fun ps z => by cases z), Reps.keepN e h3⟩⟩
    · exact ⟨a, od, h1, .inr ⟨w, q, e _ _ h2 (fun ps z => by cases z), Reps.keepN e h3⟩⟩
theorem Reps.keepN (e : KeepN S S') : ∀ {l : List D} {xs : List V}, Reps K hd S l xs → Reps K hd S' l xs
  | [], _, h => h
  | d :: ds, xs, h => by
    obtain ⟨x, r, h1, h2, h3⟩ := h
    exact ⟨x, r, h1, Rep.keepN e h2, Reps.keepN e h3⟩
end
end
/-- no tables -/
def noTb (S : Hp) : Hp := fun b => match S b with
  | some (.tbl _) => none
  | o => o
theorem noTb_keep (S : Hp) : KeepN S (noTb S) := fun b o e n => by
  unfold noTb
  rw [e]
  cases o with
  | tbl ps => exact (n ps rfl).elim
  | _ => rfl
theorem noTb_of {S : Hp} {b : Addr} {o : HO} (h : noTb S b = some o) : S b = some o ∧ ∀ ps, o ≠ .tbl ps := by
  unfold noTb at h
  split at h
  · cases h
  · rename_i hn
    refine ⟨h, fun ps z => ?_⟩
    subst z
    exact hn ps h
end DL
set_option Elab.async false
set_option linter.all false
set_option maxRecDepth 100000
set_option maxHeartbeats 4000000
namespace K13
open PySem PySem.Spec PyProof.Rows L2 DL
def topS (i : Nat) : Stmt := PySem.Challenge.pw_walkorkeeper_k13_whole_kin_stands_by_sum.main.body.getD i (.Pass ⟨0, 0, 0, 0⟩)
/-- what the top has left: the built-ins are the built-ins, constants, classes -/
class Txt (G : Glo) where
  CS : Addr
  CM : Addr
  CB : Addr
  len : G.mg "len" = none
  isinstance : G.mg "isinstance" = none
  int : G.mg "int" = none
  bool : G.mg "bool" = none
  tuple : G.mg "tuple" = none
  str : G.mg "str" = none
  all : G.mg "all" = none
  enumerate : G.mg "enumerate" = none
  range : G.mg "range" = none
  sorted : G.mg "sorted" = none
  abs : G.mg "abs" = none
  min : G.mg "min" = none
  list : G.mg "list" = none
  sum : G.mg "sum" = none
  MOST_LEAVES : ∃ t, G.mg "MOST_LEAVES" = some (.int 40 t)
  MOST_GATES : ∃ t, G.mg "MOST_GATES" = some (.int 200000 t)
  MOST_HELD : ∃ t, G.mg "MOST_HELD" = some (.int 16 t)
  MOST_FREE : ∃ t, G.mg "MOST_FREE" = some (.int 8 t)
  MOST_LAID : ∃ t, G.mg "MOST_LAID" = some (.int 4000 t)
  MOST_KIN : ∃ t, G.mg "MOST_KIN" = some (.int 8 t)
  gS : G.mg "Saying" = some (.ref CS)
  gM : G.mg "Machine" = some (.ref CM)
  gB : G.mg "NoBan" = some (.ref CB)
  cS : ClsI G.K CS
  cM : ClsI G.K CM
  nS : ∀ f : Str, f ∈ (["many", "gates", "ref"] : List Str) → NoAttr G.K CS f
  nM : ∀ f : Str, f ∈ (["held", "free", "gates", "let", "steps", "start"] : List Str) → NoAttr G.K CM f
  kSS : PySem.W.kitOne G.K (.ref CS) (.ref CS) = some true
  kNS : PySem.W.kitOne G.K (.type "NoneType") (.ref CS) = some false
  kIS : PySem.W.kitOne G.K (.type "int") (.ref CS) = some false
  kTS : PySem.W.kitOne G.K (.type "str") (.ref CS) = some false
  kUS : PySem.W.kitOne G.K (.type "tuple") (.ref CS) = some false
/-- a module's int -/
theorem gint {F : Fam} {ρ : Rho} {x : Str} {pos : Pos} {Q : DQ} {n : Int} (hm : ∀ i, ∃ t, (F.cx i).mg x = some (.int n t)) (hq : Q (.int n)) (hg : ∀ i, Gl (F.cx i) x := by intro _; rfl) (h1 : (x == ("__debug__" : Str)) = false := by decide) : De F ρ (.Name x pos) Q := fun i => by
  obtain ⟨t, e⟩ := hm i
  exact De1.of (pe_glob (v := .int n) (hg i) e ⟨t, rfl⟩ h1) fun E S H σ R g k => k _ _ S H hq (Go.refl g.w) rfl
theorem gnat {F : Fam} {ρ : Rho} {x : Str} {pos : Pos} {Q : DQ} {n : Nat} (hm : ∀ i, ∃ t, (F.cx i).mg x = some (.int (n : Int) t)) (hq : Q (.int (n : Int))) (hg : ∀ i, Gl (F.cx i) x := by intro _; rfl) (h1 : (x == ("__debug__" : Str)) = false := by decide) : De F ρ (.Name x pos) Q := gint hm hq hg h1
/-- a class as isinstance's second argument -/
theorem bcls {F : Fam} {ρ : Rho} {x : Str} {pos : Pos} {Q : DQ} {n : String} (hm : ∀ i, (F.cx i).mg x = none) (hv : bootBuiltins x = some (.type n)) (hq : Q (.raw (.ty n))) (hg : ∀ i, Gl (F.cx i) x := by intro _; rfl) (hn : x ≠ "__name__" := by decide) (h1 : (x == ("__debug__" : Str)) = false := by decide) : De F ρ (.Name x pos) Q :=
  De.bltn (d := .raw (.ty n)) hm hv (v := .ty n) rfl (fun _ _ _ => rfl) hq hg hn h1
theorem ocls {F : Fam} {ρ : Rho} {x : Str} {pos : Pos} {Q : DQ} {C : Addr} (hm : ∀ i, (F.cx i).mg x = some (.ref C)) (hq : Q (.raw (.ref C))) (hg : ∀ i, Gl (F.cx i) x := by intro _; rfl) (h1 : (x == ("__debug__" : Str)) = false := by decide) : De F ρ (.Name x pos) Q :=
  De.glob (d := .raw (.ref C)) hm (v := .ref C) rfl (fun _ _ _ => rfl) hq hg h1
/-- data that are no object of the program's own -/
def plain : D → Bool
  | .raw _ => false
  | .frl _ => false
  | .hand => false
  | .ins _ _ _ => false
  | .vals _ => false
  | _ => true
def tyName : D → String
  | .non => "NoneType"
  | .bl _ => "bool"
  | .int _ => "int"
  | .str _ => "str"
  | .lst _ => "list"
  | .tup _ => "tuple"
  | _ => ""
def isInt : D → Bool
  | .int _ => true
  | .bl _ => true
  | _ => false
def isBool : D → Bool
  | .bl _ => true
  | _ => false
def isTup : D → Bool
  | .tup _ => true
  | _ => false
def isStr : D → Bool
  | .str _ => true
  | _ => false
theorem ty_of {K : PySem.W.Frag} : ∀ {d : D}, plain d = true → d.ty K (.type (tyName d))
  | .non, _ => rfl
  | .bl _, _ => rfl
  | .int _, _ => rfl
  | .str _, _ => rfl
  | .lst _, _ => rfl
  | .tup _, _ => rfl
  | .ins _ _ _, h => nomatch h
  | .hand, h => nomatch h
  | .raw _, h => nomatch h
  | .vals _, h => nomatch h
theorem isi_any {K : PySem.W.Frag} {d : D} {Q : DQ} {n : String} {b : Bool} (h : plain d = true) (hk : kitB (tyName d) n = some b) (q : Q (.bl b)) : dIsi K [d, .raw (.ty n)] Q := ⟨.type (tyName d), .type n, b, ty_of h, .ty n, kit_ty hk, q⟩
theorem kb_int : ∀ {d : D}, plain d = true → kitB (tyName d) "int" = some (isInt d)
  | .non, _ => (by decide +kernel : kitB "NoneType" "int" = some false)
  | .bl _, _ => (by decide +kernel : kitB "bool" "int" = some true)
  | .int _, _ => (by decide +kernel : kitB "int" "int" = some true)
  | .str _, _ => (by decide +kernel : kitB "str" "int" = some false)
  | .lst _, _ => (by decide +kernel : kitB "list" "int" = some false)
  | .tup _, _ => (by decide +kernel : kitB "tuple" "int" = some false)
  | .ins _ _ _, h => nomatch h
  | .hand, h => nomatch h
  | .raw _, h => nomatch h
  | .vals _, h => nomatch h
theorem isi_int {K : PySem.W.Frag} {d : D} {Q : DQ} (h : plain d = true) (q : Q (.bl (isInt d))) : dIsi K [d, .raw (.ty "int")] Q := isi_any h (kb_int h) q
theorem kb_bool : ∀ {d : D}, plain d = true → kitB (tyName d) "bool" = some (isBool d)
  | .non, _ => (by decide +kernel : kitB "NoneType" "bool" = some false)
  | .bl _, _ => (by decide +kernel : kitB "bool" "bool" = some true)
  | .int _, _ => (by decide +kernel : kitB "int" "bool" = some false)
  | .str _, _ => (by decide +kernel : kitB "str" "bool" = some false)
  | .lst _, _ => (by decide +kernel : kitB "list" "bool" = some false)
  | .tup _, _ => (by decide +kernel : kitB "tuple" "bool" = some false)
  | .ins _ _ _, h => nomatch h
  | .hand, h => nomatch h
  | .raw _, h => nomatch h
  | .vals _, h => nomatch h
theorem isi_bool {K : PySem.W.Frag} {d : D} {Q : DQ} (h : plain d = true) (q : Q (.bl (isBool d))) : dIsi K [d, .raw (.ty "bool")] Q := isi_any h (kb_bool h) q
theorem kb_tuple : ∀ {d : D}, plain d = true → kitB (tyName d) "tuple" = some (isTup d)
  | .non, _ => (by decide +kernel : kitB "NoneType" "tuple" = some false)
  | .bl _, _ => (by decide +kernel : kitB "bool" "tuple" = some false)
  | .int _, _ => (by decide +kernel : kitB "int" "tuple" = some false)
  | .str _, _ => (by decide +kernel : kitB "str" "tuple" = some false)
  | .lst _, _ => (by decide +kernel : kitB "list" "tuple" = some false)
  | .tup _, _ => (by decide +kernel : kitB "tuple" "tuple" = some true)
  | .ins _ _ _, h => nomatch h
  | .hand, h => nomatch h
  | .raw _, h => nomatch h
  | .vals _, h => nomatch h
theorem isi_tuple {K : PySem.W.Frag} {d : D} {Q : DQ} (h : plain d = true) (q : Q (.bl (isTup d))) : dIsi K [d, .raw (.ty "tuple")] Q := isi_any h (kb_tuple h) q
theorem kb_str : ∀ {d : D}, plain d = true → kitB (tyName d) "str" = some (isStr d)
  | .non, _ => (by decide +kernel : kitB "NoneType" "str" = some false)
  | .bl _, _ => (by decide +kernel : kitB "bool" "str" = some false)
  | .int _, _ => (by decide +kernel : kitB "int" "str" = some false)
  | .str _, _ => (by decide +kernel : kitB "str" "str" = some true)
  | .lst _, _ => (by decide +kernel : kitB "list" "str" = some false)
  | .tup _, _ => (by decide +kernel : kitB "tuple" "str" = some false)
  | .ins _ _ _, h => nomatch h
  | .hand, h => nomatch h
  | .raw _, h => nomatch h
  | .vals _, h => nomatch h
theorem isi_str {K : PySem.W.Frag} {d : D} {Q : DQ} (h : plain d = true) (q : Q (.bl (isStr d))) : dIsi K [d, .raw (.ty "str")] Q := isi_any h (kb_str h) q
end K13
set_option Elab.async false
set_option linter.all false
set_option maxRecDepth 100000
set_option maxHeartbeats 4000000
namespace K13
open PySem PySem.Spec PyProof.Rows L2 DL
local macro_rules | `(tactic| walk_at "d") => `(tactic| (first
  | with_reducible refine addN ?_ | with_reducible refine subN (by omega) ?_ | with_reducible refine mulN (by first | exact .inl (by decide) | exact .inr (by decide) | omega) ?_ | with_reducible refine andN ?_ | with_reducible refine orN ?_ | with_reducible refine xorN ?_
  | with_reducible refine modN (by first | decide | omega) ?_ | with_reducible refine fdivN (by first | decide | omega) (by first | decide | omega) ?_ | with_reducible refine shrN ?_ | with_reducible refine shl1 (by omega) ?_
  | with_reducible refine ltN ?_ | with_reducible refine leN ?_ | with_reducible refine gtN ?_ | with_reducible refine geN ?_ | with_reducible refine eqN ?_ | with_reducible refine neN ?_ | with_reducible refine absN ?_ | with_reducible refine minN ?_ | with_reducible refine intB ?_
  | with_reducible refine ixL (by with_unfolding_all rfl) ?_ | with_reducible refine ixT (by with_unfolding_all rfl) ?_
  | with_reducible refine rngN (by omega) ?_
  | refine Db.one ?_ | refine Db.cons ?_ | refine Db.nil ?_
  | refine Ds.ret ?_ | refine Ds.if_ ?_
  | refine De.name 0 rfl ?_ | refine De.name 1 rfl ?_ | refine De.name 2 rfl ?_ | refine De.name 3 rfl ?_ | refine De.name 4 rfl ?_ | refine De.name 5 rfl ?_ | refine De.name 6 rfl ?_ | refine De.name 7 rfl ?_ | refine De.name 8 rfl ?_ | refine De.name 9 rfl ?_
  | refine De.nat ?_ | refine De.str ?_ | refine De.bl ?_ | refine De.non ?_
  | refine De.add ?_ | refine De.sub ?_ | refine De.mul ?_ | refine De.shl ?_ | refine De.shr ?_ | refine De.band ?_ | refine De.bor ?_ | refine De.bxor ?_ | refine De.mod ?_ | refine De.fdiv ?_ | refine De.pow ?_
  | refine De.eq ?_ | refine De.ne ?_ | refine De.lt ?_ | refine De.le ?_ | refine De.gt ?_ | refine De.ge ?_
  | refine Dt.eq ?_ | refine Dt.ne ?_ | refine Dt.lt ?_ | refine Dt.le ?_ | refine Dt.gt ?_ | refine Dt.ge ?_
  | refine Dt.not ?_ | refine Dt.or2 ?_ | refine Dt.and2 ?_ | refine Dt.or3 ?_
  | refine De.chLL ?_ | refine De.chLl ?_
  | refine De.and1 ?_ | refine De.and ?_ | refine De.or ?_ | refine De.not ?_ | refine De.ite ?_
  | refine Da.nil ?_ | refine Da.cons ?_ | refine De.tup ?_ | refine De.lst ?_
  | refine De.ix ?_ | refine De.slLo ?_ | refine De.slHi ?_ | refine De.fld ?_
  | refine De.isi (fun _ => Txt.isinstance) ?_ | refine De.len (fun _ => Txt.len) ?_ | refine De.toTup (fun _ => Txt.tuple) ?_ | refine De.toLst (fun _ => Txt.list) ?_ | refine De.toInt (fun _ => Txt.int) ?_ | refine De.allB (fun _ => Txt.all) ?_ | refine De.sum (fun _ => Txt.sum) ?_
  | refine De.min2 (fun _ => Txt.min) ?_ | refine De.abs (fun _ => Txt.abs) ?_ | refine De.sortI (fun _ => Txt.sorted) ?_
  | refine bcls (fun _ => Txt.int) boot_int ?_ | refine bcls (fun _ => Txt.bool) boot_bool ?_ | refine bcls (fun _ => Txt.tuple) boot_tuple ?_ | refine bcls (fun _ => Txt.str) boot_str ?_
  | refine ocls (fun _ => Txt.gS) ?_
  | refine gnat (fun _ => Txt.MOST_LEAVES) ?_ | refine gnat (fun _ => Txt.MOST_GATES) ?_ | refine gnat (fun _ => Txt.MOST_HELD) ?_ | refine gnat (fun _ => Txt.MOST_FREE) ?_ | refine gnat (fun _ => Txt.MOST_LAID) ?_ | refine gnat (fun _ => Txt.MOST_KIN) ?_
  | refine Di.range1 (fun _ => Txt.range) ?_ | refine Di.range2 (fun _ => Txt.range) ?_ | refine Di.enum (fun _ => Txt.enumerate) ?_
  | refine fun _ => isi_int rfl ?_ | refine fun _ => isi_bool rfl ?_ | refine fun _ => isi_tuple rfl ?_ | refine fun _ => isi_str rfl ?_
  | refine Dt.val ?_))
variable {G : Glo} [Txt G]
abbrev sIsInteger : Stmt := topS 1
theorem scIsInteger : FnScope ["thing"] ["thing"] (defScope sIsInteger) := ⟨rfl, rfl, rfl, by decide +kernel, rfl, by decide +kernel, by decide +kernel⟩
def isInteger (d : D) : Bool := isInt d && !isBool d
def spIsInteger : DSpec := fun ds Q => ∃ d, ds = [d] ∧ plain d = true ∧ Q (.bl (isInteger d))
theorem ok_is_integer {f : Addr} {fd : FuncData} {x qual : Str} (F : Fun G.K x qual sIsInteger f fd) : FnOk G.P G.w G.K G.mg G.base CX0 1 f fd ["thing"] (spD G.K spIsInteger) := by
  refine defD F scIsInteger (fun ds Q h => by obtain ⟨d, rfl, _⟩ := h; rfl) (fun ds Q h => ?_)
  obtain ⟨d, rfl, hp, hq⟩ := h
  repeat walk_at "d"
  refine fun _ => isi_int hp ⟨fun h => ?_, fun h => ?_⟩
  · repeat walk_at "d"
    refine fun _ => isi_bool hp ?_
    unfold isInteger at hq
    rw [h] at hq
    exact hq
  · unfold isInteger at hq
    rw [h] at hq
    exact hq
abbrev sIsNumber : Stmt := topS 2
theorem scIsNumber : FnScope ["thing", "most"] ["thing", "most"] (defScope sIsNumber) := ⟨rfl, rfl, rfl, by decide +kernel, rfl, by decide +kernel, by decide +kernel⟩
def spIsNumber : DSpec := fun ds Q => ∃ n m : Nat, ds = [.int n, .int m] ∧ Q (.bl (decide (n ≤ m)))
theorem ok_is_number {f : Addr} {fd : FuncData} {x qual : Str} (F : Fun G.K x qual sIsNumber f fd) (c : Callee G "is_integer" spIsInteger 1) : FnOk G.P G.w G.K G.mg G.base CX0 2 f fd ["thing", "most"] (spD G.K spIsNumber) := by
  refine defD F scIsNumber (fun ds Q h => by obtain ⟨n, m, rfl, _⟩ := h; rfl) (fun ds Q h => ?_)
  obtain ⟨n, m, rfl, hq⟩ := h
  repeat walk_at "d"
  refine De.call c ?_
  repeat walk_at "d"
  refine ⟨_, rfl, rfl, fun _ => ?_, fun z => nomatch z⟩
  repeat walk_at "d"
  refine ⟨fun h => ?_, fun h => absurd (of_decide_eq_false h) (fun z => z (Nat.zero_le n))⟩
  repeat walk_at "d"
  exact hq
abbrev sIsTold : Stmt := topS 3
theorem scIsTold : FnScope ["thing", "word", "size"] ["thing", "word", "size"] (defScope sIsTold) := ⟨rfl, rfl, rfl, by decide +kernel, rfl, by decide +kernel, by decide +kernel⟩
def spIsTold : DSpec := fun ds Q => ∃ (s w : Str) (r : List D) (n : Nat), ds = [.tup (.str s :: r), .str w, .int n] ∧ Q (.bl (decide (r.length + 1 = n) && decide (s = w)))
theorem ok_is_told {f : Addr} {fd : FuncData} {x qual : Str} (F : Fun G.K x qual sIsTold f fd) : FnOk G.P G.w G.K G.mg G.base CX0 1 f fd ["thing", "word", "size"] (spD G.K spIsTold) := by
  refine defD F scIsTold (fun ds Q h => by obtain ⟨s, w, r, n, rfl, _⟩ := h; rfl) (fun ds Q h => ?_)
  obtain ⟨s, w, r, n, rfl, hq⟩ := h
  repeat walk_at "d"
  refine ⟨fun _ => ?_, fun z => nomatch z⟩
  repeat walk_at "d"
  refine ⟨fun h => ?_, fun h => ?_⟩
  · have h := of_decide_eq_true h
    repeat walk_at "d"
    refine ⟨fun _ => ?_, fun z => nomatch z⟩
    repeat walk_at "d"
    rw [decide_eq_true (show r.length + 1 = n by rw [List.length_cons] at h; omega)] at hq
    exact hq
  · have h := of_decide_eq_false h
    rw [decide_eq_false (show ¬ r.length + 1 = n by rw [List.length_cons] at h; omega)] at hq
    exact hq
abbrev sIsRef : Stmt := topS 11
theorem scIsRef : FnScope ["thing", "nodes"] ["thing", "nodes"] (defScope sIsRef) := ⟨rfl, rfl, rfl, by decide +kernel, rfl, by decide +kernel, by decide +kernel⟩
def spIsRef : DSpec := fun ds Q => ∃ n m : Nat, ds = [.int n, .int m] ∧ n < 2 * m ∧ Q (.bl true)
theorem ok_is_ref {f : Addr} {fd : FuncData} {x qual : Str} (F : Fun G.K x qual sIsRef f fd) (c : Callee G "is_integer" spIsInteger 1) : FnOk G.P G.w G.K G.mg G.base CX0 2 f fd ["thing", "nodes"] (spD G.K spIsRef) := by
  refine defD F scIsRef (fun ds Q h => by obtain ⟨n, m, rfl, _⟩ := h; rfl) (fun ds Q h => ?_)
  obtain ⟨n, m, rfl, hl, hq⟩ := h
  repeat walk_at "d"
  refine De.call c ?_
  repeat walk_at "d"
  refine ⟨_, rfl, rfl, fun _ => ?_, fun z => nomatch z⟩
  repeat walk_at "d"
  refine ⟨fun h => ?_, fun h => absurd (of_decide_eq_false h) (fun z => z (Nat.zero_le n))⟩
  repeat walk_at "d"
  rw [decide_eq_true hl]
  exact hq
end K13
set_option Elab.async false
set_option linter.all false
set_option maxRecDepth 100000
/-! K13g: gates, sayings, machines as plain data. -/
namespace K13
open PySem L2 DL
abbrev natD (n : Nat) : D := .int (n : Int)
/-- the gates that the laws of sums make -/
inductive Gate where
  | and (rs : List Nat) | xor (a b : Nat)
def Gate.d : Gate → D
  | .and rs => .tup [.str "and", .tup (rs.map natD)]
  | .xor a b => .tup [.str "xor", natD a, natD b]
def Gate.ok (n : Nat) : Gate → Prop
  | .and rs => ∀ r ∈ rs, r < 2 * n
  | .xor a b => a < 2 * n ∧ b < 2 * n
def Gate.small : Gate → Prop
  | .and rs => rs.length ≤ sizeLine
  | .xor _ _ => True
def gatesOk (n : Nat) (gs : List Gate) : Prop := ∀ i g, gs[i]? = some g → Gate.ok (n + i) g ∧ g.small
def sayD (C : Addr) (many : Nat) (gs : List Gate) (ref : Nat) : D := .ins C ["many", "gates", "ref"] [natD many, .tup (gs.map Gate.d), natD ref]
/-! ### tables -/
/-- what the loop of leaf_table makes in k turns -/
def lt (run : Nat) : Nat → Nat
  | 0 => 0
  | k + 1 => lt run k * 2 ^ (2 * run) + (2 ^ run - 1) * 2 ^ run
theorem lt_lt (run : Nat) : ∀ k, lt run k < 2 ^ (2 * run * k)
  | 0 => by show 0 < 2 ^ 0; decide
  | k + 1 => by
    have h := lt_lt run k
    have e : 2 ^ (2 * run * (k + 1)) = 2 ^ (2 * run * k) * 2 ^ (2 * run) := by rw [← Nat.pow_add]; congr 1
    have b : (2 ^ run - 1) * 2 ^ run < 2 ^ (2 * run) := by
      have p : 0 < 2 ^ run := Nat.two_pow_pos _
      have q : 2 ^ (2 * run) = 2 ^ run * 2 ^ run := by rw [← Nat.pow_add]; congr 1; omega
      rw [q]
      exact Nat.mul_lt_mul_of_pos_right (by omega) p
    show lt run k * 2 ^ (2 * run) + (2 ^ run - 1) * 2 ^ run < _
    rw [e]
    calc lt run k * 2 ^ (2 * run) + (2 ^ run - 1) * 2 ^ run < lt run k * 2 ^ (2 * run) + 2 ^ (2 * run) := by omega
      _ = (lt run k + 1) * 2 ^ (2 * run) := by rw [Nat.add_mul, Nat.one_mul]
      _ ≤ 2 ^ (2 * run * k) * 2 ^ (2 * run) := Nat.mul_le_mul_right _ h
def leafTab (m l : Nat) : Nat := lt (2 ^ (m - 1 - l)) (2 ^ l)
theorem testBit_mul_add {a b n i : Nat} (h : b < 2 ^ n) : (a * 2 ^ n + b).testBit i = if i < n then b.testBit i else a.testBit (i - n) := by
  rw [Nat.mul_comm, Nat.testBit_two_pow_mul_add a h]
theorem testBit_block (run i : Nat) : ((2 ^ run - 1) * 2 ^ run).testBit i = (decide (run ≤ i) && decide (i < 2 * run)) := by
  rw [Nat.mul_comm, Nat.testBit_two_pow_mul, Nat.testBit_two_pow_sub_one]
  by_cases h : run ≤ i
  · rw [decide_eq_true h, Bool.true_and, Bool.true_and]
    exact decide_eq_decide.mpr (by omega)
  · rw [decide_eq_false h]
    rfl
theorem lt_bit (run : Nat) (hr : 0 < run) : ∀ k i, (lt run k).testBit i = (decide (i < 2 * run * k) && decide (i / run % 2 = 1))
  | 0, i => by
    show (0 : Nat).testBit i = _
    rw [Nat.zero_testBit, Nat.mul_zero, decide_eq_false (Nat.not_lt_zero i)]
    rfl
  | k + 1, i => by
    have b : (2 ^ run - 1) * 2 ^ run < 2 ^ (2 * run) := by
      have p : 0 < 2 ^ run := Nat.two_pow_pos _
      have q : 2 ^ (2 * run) = 2 ^ run * 2 ^ run := by rw [← Nat.pow_add]; congr 1; omega
      rw [q]
      exact Nat.mul_lt_mul_of_pos_right (by omega) p
    show (lt run k * 2 ^ (2 * run) + (2 ^ run - 1) * 2 ^ run).testBit i = _
    rw [testBit_mul_add b]
    have ek : 2 * run * (k + 1) = 2 * run * k + 2 * run := Nat.mul_succ _ _
    by_cases h : i < 2 * run
    · rw [if_pos h, testBit_block, decide_eq_true h, Bool.and_true, decide_eq_true (show i < 2 * run * (k + 1) by rw [ek]; omega), Bool.true_and]
      refine decide_eq_decide.mpr ⟨fun q => ?_, fun q => ?_⟩
      · have e : i / run = 1 := Nat.div_eq_of_lt_le (by omega) (by omega)
        rw [e]
      · apply Nat.le_of_not_lt
        intro z
        rw [Nat.div_eq_of_lt z] at q
        omega
    · rw [if_neg h, lt_bit run hr k]
      have e1 : i / run % 2 = (i - 2 * run) / run % 2 := by
        have : i = (i - 2 * run) + run * 2 := by omega
        conv => lhs; rw [this, Nat.add_mul_div_left _ _ hr]
        omega
      rw [e1]
      congr 1
      exact decide_eq_decide.mpr (by rw [ek]; omega)
theorem leafTab_bit {m l i : Nat} (hl : l < m) : (leafTab m l).testBit i = (decide (i < 2 ^ m) && i.testBit (m - 1 - l)) := by
  unfold leafTab
  rw [lt_bit _ (Nat.two_pow_pos _)]
  have e : 2 * 2 ^ (m - 1 - l) * 2 ^ l = 2 ^ m := by
    rw [← Nat.pow_succ', ← Nat.pow_add]
    congr 1
    omega
  rw [e]
  congr 1
  rw [Nat.testBit_eq_decide_div_mod_eq]
theorem leafTab_lt {m l : Nat} (hl : l < m) : leafTab m l < 2 ^ 2 ^ m := by
  have h := lt_lt (2 ^ (m - 1 - l)) (2 ^ l)
  have e : 2 * 2 ^ (m - 1 - l) * 2 ^ l = 2 ^ m := by
    rw [← Nat.pow_succ', ← Nat.pow_add]
    congr 1
    omega
  rw [e] at h
  exact h
end K13
set_option Elab.async false
set_option linter.all false
set_option maxRecDepth 100000
set_option maxHeartbeats 4000000
set_option pp.maxSteps 300
namespace K13
open PySem PySem.Spec PyProof.Rows L2 DL
local macro_rules | `(tactic| walk_at "d") => `(tactic| (first
  | with_reducible refine addN ?_ | with_reducible refine subN (by omega) ?_ | with_reducible refine mulN (by first | exact .inl (by decide) | exact .inr (by decide) | omega) ?_ | with_reducible refine andN ?_ | with_reducible refine orN ?_ | with_reducible refine xorN ?_
  | with_reducible refine modN (by first | decide | omega) ?_ | with_reducible refine fdivN (by first | decide | omega) (by first | decide | omega) ?_ | with_reducible refine shrN ?_ | with_reducible refine shl1 (by omega) ?_
  | with_reducible refine ltN ?_ | with_reducible refine leN ?_ | with_reducible refine gtN ?_ | with_reducible refine geN ?_ | with_reducible refine eqN ?_ | with_reducible refine neN ?_ | with_reducible refine absN ?_ | with_reducible refine minN ?_ | with_reducible refine intB ?_
  | with_reducible refine ixL (by with_unfolding_all rfl) ?_ | with_reducible refine ixT (by with_unfolding_all rfl) ?_
  | with_reducible refine rngN (by omega) ?_
  | refine Db.one ?_ | refine Db.cons ?_ | refine Db.nil ?_
  | refine Ds.ret ?_ | refine Ds.if_ ?_
  | refine De.name 0 rfl ?_ | refine De.name 1 rfl ?_ | refine De.name 2 rfl ?_ | refine De.name 3 rfl ?_ | refine De.name 4 rfl ?_ | refine De.name 5 rfl ?_ | refine De.name 6 rfl ?_ | refine De.name 7 rfl ?_ | refine De.name 8 rfl ?_ | refine De.name 9 rfl ?_
  | refine De.nat ?_ | refine De.str ?_ | refine De.bl ?_ | refine De.non ?_
  | refine De.add ?_ | refine De.sub ?_ | refine De.mul ?_ | refine De.shl ?_ | refine De.shr ?_ | refine De.band ?_ | refine De.bor ?_ | refine De.bxor ?_ | refine De.mod ?_ | refine De.fdiv ?_ | refine De.pow ?_
  | refine De.eq ?_ | refine De.ne ?_ | refine De.lt ?_ | refine De.le ?_ | refine De.gt ?_ | refine De.ge ?_
  | refine Dt.eq ?_ | refine Dt.ne ?_ | refine Dt.lt ?_ | refine Dt.le ?_ | refine Dt.gt ?_ | refine Dt.ge ?_
  | refine Dt.not ?_ | refine Dt.or2 ?_ | refine Dt.and2 ?_ | refine Dt.or3 ?_
  | refine De.chLL ?_ | refine De.chLl ?_
  | refine De.and1 ?_ | refine De.and ?_ | refine De.or ?_ | refine De.not ?_ | refine De.ite ?_
  | refine Da.nil ?_ | refine Da.cons ?_ | refine De.tup ?_ | refine De.lst ?_
  | refine De.ix ?_ | refine De.slLo ?_ | refine De.slHi ?_ | refine De.fld ?_
  | refine De.isi (fun _ => Txt.isinstance) ?_ | refine De.len (fun _ => Txt.len) ?_ | refine De.toTup (fun _ => Txt.tuple) ?_ | refine De.toLst (fun _ => Txt.list) ?_ | refine De.toInt (fun _ => Txt.int) ?_ | refine De.allB (fun _ => Txt.all) ?_ | refine De.sum (fun _ => Txt.sum) ?_
  | refine De.min2 (fun _ => Txt.min) ?_ | refine De.abs (fun _ => Txt.abs) ?_ | refine De.sortI (fun _ => Txt.sorted) ?_
  | refine bcls (fun _ => Txt.int) boot_int ?_ | refine bcls (fun _ => Txt.bool) boot_bool ?_ | refine bcls (fun _ => Txt.tuple) boot_tuple ?_ | refine bcls (fun _ => Txt.str) boot_str ?_
  | refine ocls (fun _ => Txt.gS) ?_
  | refine gnat (fun _ => Txt.MOST_LEAVES) ?_ | refine gnat (fun _ => Txt.MOST_GATES) ?_ | refine gnat (fun _ => Txt.MOST_HELD) ?_ | refine gnat (fun _ => Txt.MOST_FREE) ?_ | refine gnat (fun _ => Txt.MOST_LAID) ?_ | refine gnat (fun _ => Txt.MOST_KIN) ?_
  | refine Di.range1 (fun _ => Txt.range) ?_ | refine Di.range2 (fun _ => Txt.range) ?_ | refine Di.enum (fun _ => Txt.enumerate) ?_
  | refine fun _ => isi_int rfl ?_ | refine fun _ => isi_bool rfl ?_ | refine fun _ => isi_tuple rfl ?_ | refine fun _ => isi_str rfl ?_
  | refine Dt.val ?_))
variable {G : Glo} [Txt G]
abbrev sIsGate : Stmt := topS 12
theorem scIsGate : FnScope ["thing", "nodes", "ref"] ["thing", "nodes"] (defScope sIsGate) := ⟨rfl, rfl, rfl, by decide +kernel, rfl, by decide +kernel, by decide +kernel⟩
def spIsGate : DSpec := fun ds Q => ∃ (g : Gate) (n : Nat), ds = [g.d, natD n] ∧ g.ok n ∧ g.small ∧ Q (.bl true)
theorem ok_is_gate {f : Addr} {fd : FuncData} {x qual : Str} (F : Fun G.K x qual sIsGate f fd) (cT : Callee G "is_told" spIsTold 1) (cR : Callee G "is_ref" spIsRef 2) : FnOk G.P G.w G.K G.mg G.base CX0 3 f fd ["thing", "nodes"] (spD G.K spIsGate) := by
  refine defD F scIsGate (fun ds Q h => by obtain ⟨g, m, rfl, _⟩ := h; rfl) (fun ds Q h => ?_)
  obtain ⟨g, n, rfl, hg, hz, hq⟩ := h
  cases g with
  | and rs =>
    have hz : rs.length ≤ sizeLine := hz
    show Db _ (rho0 _ [.tup [.str "and", .tup (rs.map natD)], .int n]) _ _
    repeat walk_at "d"
    refine De.call cT ?_
    repeat walk_at "d"
    refine ⟨"and", "and", _, 2, rfl, ?_⟩
    refine ⟨fun _ => ?_, fun z => nomatch z⟩
    repeat walk_at "d"
    refine ⟨fun _ => ?_, fun z => nomatch z⟩
    repeat walk_at "d"
    refine De.lc [("ref", 2)] .no (Tgt.name 2 (fun _ => scIsGate.nd)) (fun _ => blkOk_by (N := ["thing", "nodes", "ref"]) (sc := defScope sIsGate) (by decide +kernel)) (fun _ => scIsGate.nd) ?_
    refine Di.seq ?_
    repeat walk_at "d"
    refine ⟨by rw [List.length_map]; exact hz, lc_map (fun _ => .bl true) _ ?_ fun d hd Q' hq' => ?_⟩
    · repeat walk_at "d"
      refine ⟨List.replicate rs.length true, ?_, ?_⟩
      · rw [List.map_replicate, List.map_map]
        exact List.map_const' ..
      · rw [List.all_replicate]
        simpa using hq
    · obtain ⟨r, hr, rfl⟩ := List.mem_map.mp hd
      repeat walk_at "d"
      refine De.call cR ?_
      repeat walk_at "d"
      exact ⟨r, n, rfl, hg r hr, hq'⟩
  | xor a b =>
    show Db _ (rho0 _ [.tup [.str "xor", .int a, .int b], .int n]) _ _
    repeat walk_at "d"
    refine De.call cT ?_
    repeat walk_at "d"
    refine ⟨"xor", "and", _, 2, rfl, ?_⟩
    refine ⟨fun z => (nomatch z), fun _ => ?_⟩
    repeat walk_at "d"
    refine De.call cT ?_
    repeat walk_at "d"
    refine ⟨"xor", "xor", _, 3, rfl, ?_⟩
    refine ⟨fun _ => ⟨fun _ => ?_, fun z => (nomatch z)⟩, fun z => (nomatch z)⟩
    repeat walk_at "d"
    refine De.lc [("ref", 2)] .no (Tgt.name 2 (fun _ => scIsGate.nd)) (fun _ => blkOk_by (N := ["thing", "nodes", "ref"]) (sc := defScope sIsGate) (by decide +kernel)) (fun _ => scIsGate.nd) ?_
    refine Di.seq ?_
    repeat walk_at "d"
    refine ⟨by show 2 ≤ sizeLine; decide, lc_map (fun _ => .bl true) _ ?_ fun d hd Q' hq' => ?_⟩
    · repeat walk_at "d"
      exact ⟨[true, true], rfl, hq⟩
    · have hd : d ∈ [D.int (a : Int), D.int (b : Int)] := hd
      repeat walk_at "d"
      refine De.call cR ?_
      repeat walk_at "d"
      rcases List.mem_cons.mp hd with rfl | hd
      · exact ⟨a, n, rfl, hg.1, hq'⟩
      · cases List.mem_singleton.mp hd
        exact ⟨b, n, rfl, hg.2, hq'⟩
end K13
set_option Elab.async false
set_option linter.all false
set_option maxRecDepth 100000
set_option maxHeartbeats 4000000
set_option pp.maxSteps 300
namespace K13
open PySem PySem.Spec PyProof.Rows L2 DL
local macro_rules | `(tactic| walk_at "d") => `(tactic| (first
  | with_reducible refine addN ?_ | with_reducible refine subN (by omega) ?_ | with_reducible refine mulN (by first | exact .inl (by decide) | exact .inr (by decide) | omega) ?_ | with_reducible refine andN ?_ | with_reducible refine orN ?_ | with_reducible refine xorN ?_
  | with_reducible refine modN (by first | decide | omega) ?_ | with_reducible refine fdivN (by first | decide | omega) (by first | decide | omega) ?_ | with_reducible refine shrN ?_ | with_reducible refine shl1 (by omega) ?_
  | with_reducible refine ltN ?_ | with_reducible refine leN ?_ | with_reducible refine gtN ?_ | with_reducible refine geN ?_ | with_reducible refine eqN ?_ | with_reducible refine neN ?_ | with_reducible refine absN ?_ | with_reducible refine minN ?_ | with_reducible refine intB ?_
  | with_reducible refine ixL (by with_unfolding_all rfl) ?_ | with_reducible refine ixT (by with_unfolding_all rfl) ?_
  | with_reducible refine rngN (by omega) ?_
  | refine Db.one ?_ | refine Db.cons ?_ | refine Db.nil ?_
  | refine Ds.ret ?_ | refine Ds.if_ ?_
  | refine De.name 0 rfl ?_ | refine De.name 1 rfl ?_ | refine De.name 2 rfl ?_ | refine De.name 3 rfl ?_ | refine De.name 4 rfl ?_ | refine De.name 5 rfl ?_ | refine De.name 6 rfl ?_ | refine De.name 7 rfl ?_ | refine De.name 8 rfl ?_ | refine De.name 9 rfl ?_
  | refine De.nat ?_ | refine De.str ?_ | refine De.bl ?_ | refine De.non ?_
  | refine De.add ?_ | refine De.sub ?_ | refine De.mul ?_ | refine De.shl ?_ | refine De.shr ?_ | refine De.band ?_ | refine De.bor ?_ | refine De.bxor ?_ | refine De.mod ?_ | refine De.fdiv ?_ | refine De.pow ?_
  | refine De.eq ?_ | refine De.ne ?_ | refine De.lt ?_ | refine De.le ?_ | refine De.gt ?_ | refine De.ge ?_
  | refine Dt.eq ?_ | refine Dt.ne ?_ | refine Dt.lt ?_ | refine Dt.le ?_ | refine Dt.gt ?_ | refine Dt.ge ?_
  | refine Dt.not ?_ | refine Dt.or2 ?_ | refine Dt.and2 ?_ | refine Dt.or3 ?_
  | refine De.chLL ?_ | refine De.chLl ?_
  | refine De.and1 ?_ | refine De.and ?_ | refine De.or ?_ | refine De.not ?_ | refine De.ite ?_
  | refine Da.nil ?_ | refine Da.cons ?_ | refine De.tup ?_ | refine De.lst ?_
  | refine De.ix ?_ | refine De.slLo ?_ | refine De.slHi ?_ | refine De.fld ?_
  | refine De.isi (fun _ => Txt.isinstance) ?_ | refine De.len (fun _ => Txt.len) ?_ | refine De.toTup (fun _ => Txt.tuple) ?_ | refine De.toLst (fun _ => Txt.list) ?_ | refine De.toInt (fun _ => Txt.int) ?_ | refine De.allB (fun _ => Txt.all) ?_ | refine De.sum (fun _ => Txt.sum) ?_
  | refine De.min2 (fun _ => Txt.min) ?_ | refine De.abs (fun _ => Txt.abs) ?_ | refine De.sortI (fun _ => Txt.sorted) ?_
  | refine bcls (fun _ => Txt.int) boot_int ?_ | refine bcls (fun _ => Txt.bool) boot_bool ?_ | refine bcls (fun _ => Txt.tuple) boot_tuple ?_ | refine bcls (fun _ => Txt.str) boot_str ?_
  | refine ocls (fun _ => Txt.gS) ?_
  | refine gnat (fun _ => Txt.MOST_LEAVES) ?_ | refine gnat (fun _ => Txt.MOST_GATES) ?_ | refine gnat (fun _ => Txt.MOST_HELD) ?_ | refine gnat (fun _ => Txt.MOST_FREE) ?_ | refine gnat (fun _ => Txt.MOST_LAID) ?_ | refine gnat (fun _ => Txt.MOST_KIN) ?_
  | refine Di.range1 (fun _ => Txt.range) ?_ | refine Di.range2 (fun _ => Txt.range) ?_ | refine Di.enum (fun _ => Txt.enumerate) ?_
  | refine fun _ => isi_int rfl ?_ | refine fun _ => isi_bool rfl ?_ | refine fun _ => isi_tuple rfl ?_ | refine fun _ => isi_str rfl ?_
  | refine Dt.val ?_))
variable {G : Glo} [Txt G]
abbrev sSayInit : Stmt := inClass (topS 16) 0
theorem scSayInit : FnScope ["self", "many", "gates", "ref", "at", "gate"] ["self", "many", "gates", "ref"] (defScope sSayInit) := ⟨rfl, rfl, rfl, by decide +kernel, rfl, by decide +kernel, by decide +kernel⟩
def spSayInit : SpecI := fun ds Q => ∃ (m r : Nat) (gs : List Gate), ds = [natD m, .tup (gs.map Gate.d), natD r] ∧ m ≤ 40 ∧ gs.length ≤ 200000 ∧ gatesOk m gs ∧ r < 2 * (m + gs.length) ∧ Q ["many", "gates", "ref"] [natD m, .tup (gs.map Gate.d), natD r]
theorem ok_say_init {f : Addr} {fd : FuncData} {x qual : Str} (F : Fun G.K x qual sSayInit f fd) (cN : Callee G "is_number" spIsNumber 2) (cR : Callee G "is_ref" spIsRef 2) (cG : Callee G "is_gate" spIsGate 3) : FnOk G.P G.w G.K G.mg G.base CX0 4 f fd ["self", "many", "gates", "ref"] (spI G.K (Txt.CS G) spSayInit) := by
  refine defInit F scSayInit (fun ds Q h => by obtain ⟨m, r, gs, rfl, _⟩ := h; rfl) (fun x ds Q h => ?_)
  obtain ⟨m, r, gs, rfl, hm, hl, hg, hr, hq⟩ := h
  show Db _ (.ow (.ins x (Txt.CS G) [] []) :: rho0 _ [.int m, .tup (gs.map Gate.d), .int r]) _ _
  repeat walk_at "d"
  refine De.call cN ?_
  repeat walk_at "d"
  refine ⟨m, 40, rfl, ?_⟩
  rw [decide_eq_true hm]
  refine ⟨fun z => (nomatch z), fun _ => ?_⟩
  repeat walk_at "d"
  refine ⟨fun z => (nomatch z), fun _ => ?_⟩
  repeat walk_at "d"
  rw [List.length_map, decide_eq_false (show ¬ 200000 < gs.length by omega)]
  refine ⟨fun z => (nomatch z), fun _ => ?_⟩
  repeat walk_at "d"
  refine De.lc [("at", 4), ("gate", 5)] .no (Tgt.two 4 5 (fun _ => scSayInit.nd)) (fun _ => blkOk_by (N := ["self", "many", "gates", "ref", "at", "gate"]) (sc := defScope sSayInit) (by decide +kernel)) (fun _ => scSayInit.nd) ?_
  repeat walk_at "d"
  refine ⟨by rw [enumD_len, List.length_map, sizeLine_eq]; omega, lc_enum (fun _ => .bl true) _ ?_ fun i d hd Q' hq' => ?_⟩
  · repeat walk_at "d"
    refine all_true _ ?_
    refine ⟨fun z => (nomatch z), fun _ => ?_⟩
    repeat walk_at "d"
    refine De.call cR ?_
    repeat walk_at "d"
    rw [List.length_map]
    refine ⟨r, m + gs.length, rfl, hr, fun z => (nomatch z), fun _ => ?_⟩
    repeat walk_at "d"
    refine Ds.setFld 0 rfl (fun _ => Txt.cS.cl) (fun _ => Txt.nS _ (by decide)) (by decide) (by decide) ?_
    repeat walk_at "d"
    refine Ds.setFld 0 rfl (fun _ => Txt.cS.cl) (fun _ => Txt.nS _ (by decide)) (by decide) (by decide) ?_
    repeat walk_at "d"
    refine Ds.setFld 0 rfl (fun _ => Txt.cS.cl) (fun _ => Txt.nS _ (by decide)) (by decide) (by decide) ?_
    repeat walk_at "d"
    exact ⟨_, _, rfl, hq⟩
  · rw [List.getElem?_map] at hd
    obtain ⟨g, eg, rfl⟩ : ∃ g, gs[i]? = some g ∧ g.d = d := by
      cases q : gs[i]? with
      | none => rw [q] at hd; cases hd
      | some g => rw [q] at hd; exact ⟨g, rfl, Option.some.inj hd⟩
    repeat walk_at "d"
    refine De.call cG ?_
    repeat walk_at "d"
    exact ⟨g, m + i, rfl, (hg i g eg).1, (hg i g eg).2, hq'⟩
end K13
set_option Elab.async false
set_option linter.all false
set_option maxRecDepth 100000
set_option maxHeartbeats 4000000
set_option pp.maxSteps 300
namespace K13
open PySem PySem.Spec PyProof.Rows L2 DL
local macro_rules | `(tactic| walk_at "d") => `(tactic| (first
  | with_reducible refine addN ?_ | with_reducible refine subN (by omega) ?_ | with_reducible refine mulN (by first | exact .inl (by decide) | exact .inr (by decide) | omega) ?_ | with_reducible refine andN ?_ | with_reducible refine orN ?_ | with_reducible refine xorN ?_
  | with_reducible refine modN (by first | decide | omega) ?_ | with_reducible refine fdivN (by first | decide | omega) (by first | decide | omega) ?_ | with_reducible refine shrN ?_ | with_reducible refine shl1 (by omega) ?_
  | with_reducible refine ltN ?_ | with_reducible refine leN ?_ | with_reducible refine gtN ?_ | with_reducible refine geN ?_ | with_reducible refine eqN ?_ | with_reducible refine neN ?_ | with_reducible refine absN ?_ | with_reducible refine minN ?_ | with_reducible refine intB ?_
  | with_reducible refine ixL (by with_unfolding_all rfl) ?_ | with_reducible refine ixT (by with_unfolding_all rfl) ?_
  | with_reducible refine rngN (by first | omega | decide) ?_
  | with_reducible refine lenTm ?_ | with_reducible refine lenLm ?_ | with_reducible refine lenT ?_ | with_reducible refine lenL ?_ | with_reducible refine tupL ?_ | with_reducible refine tupT ?_ | with_reducible refine lstL ?_ | with_reducible refine lstT ?_ | with_reducible refine itmL ?_ | with_reducible refine itmT ?_ | with_reducible refine enmL ?_ | with_reducible refine enmT ?_ | with_reducible refine eqS ?_ | with_reducible refine neS ?_ | with_reducible refine revL ?_
  | ((with_reducible refine idDb ?_); first | refine Db.one ?_ | refine Db.cons ?_ | refine Db.nil ?_)
  | ((with_reducible refine idDs ?_); first | refine Ds.ret ?_ | refine Ds.if_ ?_ | refine Ds.set' 0 ?_ | refine Ds.set' 1 ?_ | refine Ds.set' 2 ?_ | refine Ds.set' 3 ?_ | refine Ds.set' 4 ?_ | refine Ds.set' 5 ?_ | refine Ds.set' 6 ?_ | refine Ds.set' 7 ?_ | refine Ds.set' 8 ?_ | refine Ds.set' 9 ?_ | refine Ds.set' 10 ?_ | refine Ds.set' 11 ?_ | refine Ds.set' 12 ?_ | refine Ds.set' 13 ?_)
  | ((with_reducible refine idDe ?_); first
    | refine De.name 0 rfl ?_ | refine De.name 1 rfl ?_ | refine De.name 2 rfl ?_ | refine De.name 3 rfl ?_ | refine De.name 4 rfl ?_ | refine De.name 5 rfl ?_ | refine De.name 6 rfl ?_ | refine De.name 7 rfl ?_ | refine De.name 8 rfl ?_ | refine De.name 9 rfl ?_ | refine De.name 10 rfl ?_ | refine De.name 11 rfl ?_ | refine De.name 12 rfl ?_ | refine De.name 13 rfl ?_
    | refine De.nat (n := 0) ?_ | refine De.nat (n := 1) ?_ | refine De.nat (n := 2) ?_ | refine De.nat ?_ | refine De.str ?_ | refine De.bl ?_ | refine De.non ?_
    | refine De.add ?_ | refine De.sub ?_ | refine De.mul ?_ | refine De.shl ?_ | refine De.shr ?_ | refine De.band ?_ | refine De.bor ?_ | refine De.bxor ?_ | refine De.mod ?_ | refine De.fdiv ?_ | refine De.pow ?_
    | refine De.eq ?_ | refine De.ne ?_ | refine De.lt ?_ | refine De.le ?_ | refine De.gt ?_ | refine De.ge ?_
    | refine De.chLL ?_ | refine De.chLl ?_
    | refine De.and1 ?_ | refine De.and ?_ | refine De.or ?_ | refine De.not ?_ | refine De.ite ?_
    | refine De.tup ?_ | refine De.lst ?_
    | refine De.rev ?_ | refine De.slLo ?_ | refine De.slHi ?_ | refine De.ix ?_ | refine De.fld ?_
    | refine De.isi (fun _ => Txt.isinstance) ?_ | refine De.len (fun _ => Txt.len) ?_ | refine De.toTup (fun _ => Txt.tuple) ?_ | refine De.toLst (fun _ => Txt.list) ?_ | refine De.toInt (fun _ => Txt.int) ?_ | refine De.allB (fun _ => Txt.all) ?_ | refine De.sum (fun _ => Txt.sum) ?_
    | refine De.min2 (fun _ => Txt.min) ?_ | refine De.abs (fun _ => Txt.abs) ?_ | refine De.sortI (fun _ => Txt.sorted) ?_
    | refine bcls (fun _ => Txt.int) boot_int ?_ | refine bcls (fun _ => Txt.bool) boot_bool ?_ | refine bcls (fun _ => Txt.tuple) boot_tuple ?_ | refine bcls (fun _ => Txt.str) boot_str ?_
    | refine ocls (fun _ => Txt.gS) ?_
    | refine gnat (fun _ => Txt.MOST_LEAVES) ?_ | refine gnat (fun _ => Txt.MOST_GATES) ?_ | refine gnat (fun _ => Txt.MOST_HELD) ?_ | refine gnat (fun _ => Txt.MOST_FREE) ?_ | refine gnat (fun _ => Txt.MOST_LAID) ?_ | refine gnat (fun _ => Txt.MOST_KIN) ?_)
  | ((with_reducible refine idDt ?_); first
    | refine Dt.eq ?_ | refine Dt.ne ?_ | refine Dt.lt ?_ | refine Dt.le ?_ | refine Dt.gt ?_ | refine Dt.ge ?_
    | refine Dt.not ?_ | refine Dt.or2 ?_ | refine Dt.and2 ?_ | refine Dt.or3 ?_ | refine Dt.truthB ?_ | refine Dt.val ?_)
  | ((with_reducible refine idDa ?_); first | refine Da.nil ?_ | refine Da.cons ?_)
  | ((with_reducible refine idDi ?_); first | refine Di.range1 (fun _ => Txt.range) ?_ | refine Di.range2 (fun _ => Txt.range) ?_ | refine Di.enum (fun _ => Txt.enumerate) ?_)
  | refine fun _ => ⟨Txt.cS.cl, Txt.nS _ (by decide), _, rfl, ?_⟩ | refine fun _ => ⟨Txt.cM.cl, Txt.nM _ (by decide), _, rfl, ?_⟩
  | refine fun _ => isi_int rfl ?_ | refine fun _ => isi_bool rfl ?_ | refine fun _ => isi_tuple rfl ?_ | refine fun _ => isi_str rfl ?_))
variable {G : Glo} [Txt G]
abbrev sLeaf : Stmt := topS 17
abbrev NLeaf : List Str := ["many", "leaf", "run", "block", "found", "turn"]
theorem scLeaf : FnScope NLeaf ["many", "leaf"] (defScope sLeaf) := ⟨rfl, rfl, rfl, by decide +kernel, rfl, by decide +kernel, by decide +kernel⟩
def spLeaf : DSpec := fun ds Q => ∃ m l : Nat, ds = [natD m, natD l] ∧ l < m ∧ m ≤ 16 ∧ Q (natD (leafTab m l))
theorem ok_leaf {f : Addr} {fd : FuncData} {x qual : Str} (F : Fun G.K x qual sLeaf f fd) : FnOk G.P G.w G.K G.mg G.base CX0 1 f fd ["many", "leaf"] (spD G.K spLeaf) := by
  refine defD F scLeaf (fun ds Q h => by obtain ⟨m, l, rfl, _⟩ := h; rfl) (fun ds Q h => ?_)
  obtain ⟨m, l, rfl, hl, hm, hq⟩ := h
  unfold natD leafTab at *
  repeat walk_at "d"
  refine Dl.sh ?_
  repeat walk_at "d"
  obtain ⟨run, er⟩ : ∃ r, r = 2 ^ (m - 1 - l) := ⟨_, rfl⟩
  have hr : run ≤ 2 ^ 16 := by rw [er]; exact Nat.pow_le_pow_right (by decide) (by omega)
  have ht : 2 ^ l ≤ 2 ^ 16 := Nat.pow_le_pow_right (by decide) (by omega)
  rw [← er] at hq ⊢
  refine Dl.sh ?_
  repeat walk_at "d"
  have p1 : 0 < 2 ^ run := Nat.two_pow_pos _
  repeat walk_at "d"
  refine shlN run (by omega) (by omega) ?_
  repeat walk_at "d"
  refine Dl.sh ?_
  repeat walk_at "d"
  refine Ds.for_ (Tgt.name 5 (fun _ => scLeaf.nd)) ?_
  repeat walk_at "d"
  refine for_nats (fun i ρ => ∃ s, ρ = [.sh (.int m), .sh (.int l), .sh (.int run), .sh (.int ((2 ^ run - 1) * 2 ^ run : Nat)), .sh (.int (lt run i : Nat)), s]) ⟨_, rfl⟩ (fun i ρ hi h => ?_) fun ρ h => ?_
  · obtain ⟨s, rfl⟩ := h
    repeat walk_at "d"
    refine Dl.sh ?_
    repeat walk_at "d"
    refine shlN (2 * run * i) (lt_lt run i) ?_ ?_
    · have e : 2 * run * 2 ^ l = 2 ^ m := by
        rw [er, ← Nat.pow_succ', ← Nat.pow_add]
        congr 1
        omega
      have e2 : 2 ^ m ≤ 2 ^ 16 := Nat.pow_le_pow_right (by decide) hm
      have e3 : 2 * run * (i + 1) ≤ 2 * run * 2 ^ l := Nat.mul_le_mul_left _ hi
      rw [Nat.mul_succ] at e3
      omega
    repeat walk_at "d"
    exact ⟨_, rfl⟩
  · obtain ⟨s, rfl⟩ := h
    repeat walk_at "d"
    exact hq
end K13
set_option Elab.async false
set_option linter.all false
set_option maxRecDepth 100000
set_option maxHeartbeats 4000000
set_option pp.maxSteps 300
namespace K13
open PySem PySem.Spec PyProof.Rows L2 DL
local macro_rules | `(tactic| walk_at "d") => `(tactic| (first
  | with_reducible refine addN ?_ | with_reducible refine subN (by omega) ?_ | with_reducible refine mulN (by first | exact .inl (by decide) | exact .inr (by decide) | omega) ?_ | with_reducible refine andN ?_ | with_reducible refine orN ?_ | with_reducible refine xorN ?_
  | with_reducible refine modN (by first | decide | omega) ?_ | with_reducible refine fdivN (by first | decide | omega) (by first | decide | omega) ?_ | with_reducible refine shrN ?_ | with_reducible refine shl1 (by omega) ?_
  | with_reducible refine ltN ?_ | with_reducible refine leN ?_ | with_reducible refine gtN ?_ | with_reducible refine geN ?_ | with_reducible refine eqN ?_ | with_reducible refine neN ?_ | with_reducible refine absN ?_ | with_reducible refine minN ?_ | with_reducible refine intB ?_
  | with_reducible refine ixL (by with_unfolding_all rfl) ?_ | with_reducible refine ixT (by with_unfolding_all rfl) ?_
  | with_reducible refine rngN (by first | omega | decide) ?_
  | with_reducible refine lenTm ?_ | with_reducible refine lenLm ?_ | with_reducible refine lenT ?_ | with_reducible refine lenL ?_ | with_reducible refine tupL ?_ | with_reducible refine tupT ?_ | with_reducible refine lstL ?_ | with_reducible refine lstT ?_ | with_reducible refine itmL ?_ | with_reducible refine itmT ?_ | with_reducible refine enmL ?_ | with_reducible refine enmT ?_ | with_reducible refine eqS ?_ | with_reducible refine neS ?_ | with_reducible refine revL ?_
  | ((with_reducible refine idDb ?_); first | refine Db.one ?_ | refine Db.cons ?_ | refine Db.nil ?_)
  | ((with_reducible refine idDs ?_); first | refine Ds.ret ?_ | refine Ds.if_ ?_ | refine Ds.set' 0 ?_ | refine Ds.set' 1 ?_ | refine Ds.set' 2 ?_ | refine Ds.set' 3 ?_ | refine Ds.set' 4 ?_ | refine Ds.set' 5 ?_ | refine Ds.set' 6 ?_ | refine Ds.set' 7 ?_ | refine Ds.set' 8 ?_ | refine Ds.set' 9 ?_ | refine Ds.set' 10 ?_ | refine Ds.set' 11 ?_ | refine Ds.set' 12 ?_ | refine Ds.set' 13 ?_)
  | ((with_reducible refine idDe ?_); first
    | refine De.name 0 rfl ?_ | refine De.name 1 rfl ?_ | refine De.name 2 rfl ?_ | refine De.name 3 rfl ?_ | refine De.name 4 rfl ?_ | refine De.name 5 rfl ?_ | refine De.name 6 rfl ?_ | refine De.name 7 rfl ?_ | refine De.name 8 rfl ?_ | refine De.name 9 rfl ?_ | refine De.name 10 rfl ?_ | refine De.name 11 rfl ?_ | refine De.name 12 rfl ?_ | refine De.name 13 rfl ?_
    | refine De.nat (n := 0) ?_ | refine De.nat (n := 1) ?_ | refine De.nat (n := 2) ?_ | refine De.nat ?_ | refine De.str ?_ | refine De.bl ?_ | refine De.non ?_
    | refine De.add ?_ | refine De.sub ?_ | refine De.mul ?_ | refine De.shl ?_ | refine De.shr ?_ | refine De.band ?_ | refine De.bor ?_ | refine De.bxor ?_ | refine De.mod ?_ | refine De.fdiv ?_ | refine De.pow ?_
    | refine De.eq ?_ | refine De.ne ?_ | refine De.lt ?_ | refine De.le ?_ | refine De.gt ?_ | refine De.ge ?_
    | refine De.chLL ?_ | refine De.chLl ?_
    | refine De.and1 ?_ | refine De.and ?_ | refine De.or ?_ | refine De.not ?_ | refine De.ite ?_
    | refine De.tup ?_ | refine De.lst ?_
    | refine De.rev ?_ | refine De.slLo ?_ | refine De.slHi ?_ | refine De.ix ?_ | refine De.fld ?_
    | refine De.isi (fun _ => Txt.isinstance) ?_ | refine De.len (fun _ => Txt.len) ?_ | refine De.toTup (fun _ => Txt.tuple) ?_ | refine De.toLst (fun _ => Txt.list) ?_ | refine De.toInt (fun _ => Txt.int) ?_ | refine De.allB (fun _ => Txt.all) ?_ | refine De.sum (fun _ => Txt.sum) ?_
    | refine De.min2 (fun _ => Txt.min) ?_ | refine De.abs (fun _ => Txt.abs) ?_ | refine De.sortI (fun _ => Txt.sorted) ?_
    | refine bcls (fun _ => Txt.int) boot_int ?_ | refine bcls (fun _ => Txt.bool) boot_bool ?_ | refine bcls (fun _ => Txt.tuple) boot_tuple ?_ | refine bcls (fun _ => Txt.str) boot_str ?_
    | refine ocls (fun _ => Txt.gS) ?_
    | refine gnat (fun _ => Txt.MOST_LEAVES) ?_ | refine gnat (fun _ => Txt.MOST_GATES) ?_ | refine gnat (fun _ => Txt.MOST_HELD) ?_ | refine gnat (fun _ => Txt.MOST_FREE) ?_ | refine gnat (fun _ => Txt.MOST_LAID) ?_ | refine gnat (fun _ => Txt.MOST_KIN) ?_)
  | ((with_reducible refine idDt ?_); first
    | refine Dt.eq ?_ | refine Dt.ne ?_ | refine Dt.lt ?_ | refine Dt.le ?_ | refine Dt.gt ?_ | refine Dt.ge ?_
    | refine Dt.not ?_ | refine Dt.or2 ?_ | refine Dt.and2 ?_ | refine Dt.or3 ?_ | refine Dt.truthB ?_ | refine Dt.val ?_)
  | ((with_reducible refine idDa ?_); first | refine Da.nil ?_ | refine Da.cons ?_)
  | ((with_reducible refine idDi ?_); first | refine Di.range1 (fun _ => Txt.range) ?_ | refine Di.range2 (fun _ => Txt.range) ?_ | refine Di.enum (fun _ => Txt.enumerate) ?_)
  | refine fun _ => ⟨Txt.cS.cl, Txt.nS _ (by decide), _, rfl, ?_⟩ | refine fun _ => ⟨Txt.cM.cl, Txt.nM _ (by decide), _, rfl, ?_⟩
  | refine fun _ => isi_int rfl ?_ | refine fun _ => isi_bool rfl ?_ | refine fun _ => isi_tuple rfl ?_ | refine fun _ => isi_str rfl ?_))
variable {G : Glo} [Txt G]
/-! ### tables_of -/
def fullT (m : Nat) : Nat := 2 ^ 2 ^ m - 1
def refT (tabs : List Nat) (full r : Nat) : Nat := tabs.getD (r / 2) 0 ^^^ (if r % 2 = 1 then full else 0)
def gateT (full : Nat) (tabs : List Nat) : Gate → Nat
  | .and rs => rs.foldl (fun t r => t &&& refT tabs full r) full
  | .xor a b => refT tabs full a ^^^ refT tabs full b
def tabsOf (m : Nat) (gs : List Gate) : List Nat := gs.foldl (fun t g => t ++ [gateT (fullT m) t g]) ((List.range m).map (leafTab m))
theorem tabsOf_snoc (m : Nat) (gs : List Gate) (g : Gate) : tabsOf m (gs ++ [g]) = tabsOf m gs ++ [gateT (fullT m) (tabsOf m gs) g] := by
  unfold tabsOf
  rw [List.foldl_append]
  rfl
theorem tabsOf_len' (full : Nat) : ∀ (gs : List Gate) (t : List Nat), (gs.foldl (fun t g => t ++ [gateT full t g]) t).length = t.length + gs.length
  | [], t => rfl
  | g :: gs, t => by
    rw [List.foldl_cons, tabsOf_len' full gs, List.length_append, List.length_cons, List.length_cons, List.length_nil]
    omega
theorem tabsOf_len (m : Nat) (gs : List Gate) : (tabsOf m gs).length = m + gs.length := by
  unfold tabsOf
  rw [tabsOf_len', List.length_map, List.length_range]
abbrev sTables : Stmt := topS 18
abbrev NTables : List Str := ["many", "gates", "full", "tables", "gate", "refs", "told", "table", "one", "leaf", "ref"]
theorem scTables : FnScope NTables ["many", "gates"] (defScope sTables) := ⟨rfl, rfl, rfl, by decide +kernel, rfl, by decide +kernel, by decide +kernel⟩
def spTables : DSpec := fun ds Q => ∃ (m : Nat) (gs : List Gate), ds = [natD m, .tup (gs.map Gate.d)] ∧ m ≤ 16 ∧ gs.length ≤ 4000 ∧ gatesOk m gs ∧ Q (.tup [.lst ((tabsOf m gs).map natD), natD (fullT m)])
theorem getD_nat {l : List Nat} {i : Nat} (h : i < l.length) : (l.map natD)[i]? = some (D.int (l.getD i 0 : Nat)) := by
  rw [List.getElem?_map, List.getElem?_eq_getElem h, List.getD_eq_getElem?_getD, List.getElem?_eq_getElem h]
  rfl
theorem isXor {F : Fam} {ρ : Rho} {Q : DQ} {b : Bool} (h : Q (.bl b)) : Q (.bl b) := h
/-- tables[ref // 2] ^ (full if ref % 2 == 1 else 0) -/
theorem ref_walk {F : Fam} {ρ : Rho} {e1 e2 : Expr} {pos : Pos} {Q : DQ} {tabs : List Nat} {full r : Nat} (hr : r / 2 < tabs.length)
    (h1 : ∀ Q : DQ, Q (.int (tabs.getD (r / 2) 0 : Nat)) → De F ρ e1 Q) (h2 : ∀ Q : DQ, Q (.int ((if r % 2 = 1 then full else 0 : Nat) : Int)) → De F ρ e2 Q) (hq : Q (natD (refT tabs full r))) : De F ρ (.BinOp e1 .BitXor e2 pos) Q := by
  refine De.bxor (h1 _ (h2 _ (xorN hq)))
theorem ok_tables {f : Addr} {fd : FuncData} {x qual : Str} (F : Fun G.K x qual sTables f fd) (cL : Callee G "leaf_table" spLeaf 1) : FnOk G.P G.w G.K G.mg G.base CX0 2 f fd ["many", "gates"] (spD G.K spTables) := by
  refine defD F scTables (fun ds Q h => by obtain ⟨m, gs, rfl, _⟩ := h; rfl) (fun ds Q h => ?_)
  obtain ⟨m, gs, rfl, hm, hl, hg, hq⟩ := h
  show Db _ (rho0 _ [.int m, .tup (gs.map Gate.d)]) _ _
  have hm2 : 2 ^ m ≤ 2 ^ 16 := Nat.pow_le_pow_right (by decide) hm
  repeat walk_at "d"
  have p1 : 0 < 2 ^ 2 ^ m := Nat.two_pow_pos _
  refine Dl.sh ?_
  repeat walk_at "d"
  refine Dl.lc [("leaf", 9)] .no (Tgt.name 9 (fun _ => scTables.nd)) (fun _ => blkOk_by (N := ["many", "gates", "full", "tables", "gate", "refs", "told", "table", "one", "leaf", "ref"]) (sc := (defScope sTables)) (by decide +kernel)) (fun _ => scTables.nd) ?_
  repeat walk_at "d"
  refine ⟨by rw [natsD_len, sizeLine_eq]; omega, lc_nats (fun i => natD (leafTab m i)) m ?_ fun i hi Q' hq' => ?_⟩
  rotate_left
  · refine De.call cL ?_
    repeat walk_at "d"
    exact ⟨m, i, rfl, hi, hm, hq'⟩
  rw [show (List.range m).map (fun i => natD (leafTab m i)) = (tabsOf m []).map natD from by unfold tabsOf; rw [List.foldl_nil, List.map_map]; rfl]
  repeat walk_at "d"
  refine Ds.for_ (Tgt.name 4 (fun _ => scTables.nd)) ?_
  refine Di.seq ?_
  repeat walk_at "d"
  refine for_mapG Gate.d (fun gs' ρ => ∃ s4 s5 s6 s7 s8 s9 s10, ρ = [.sh (.int m), .sh (.tup (gs.map Gate.d)), .sh (.int (fullT m : Nat)), .ow (.lst ((tabsOf m gs').map natD)), s4, s5, s6, s7, s8, s9, s10]) gs ⟨_, _, _, _, _, _, _, rfl⟩ (fun pre g post ρ e h => ?_) fun ρ h => ?_
  · obtain ⟨s4, s5, s6, s7, s8, s9, s10, rfl⟩ := h
    have hgo := hg pre.length g (by rw [← e, List.getElem?_append_right (Nat.le_refl _), Nat.sub_self]; rfl)
    have hpl : pre.length ≤ gs.length := by rw [← e, List.length_append]; omega
    cases g with
    | and rs =>
      show Db _ [Sl.sh (D.int ↑m), Sl.sh (D.tup (List.map Gate.d gs)), Sl.sh (D.int ↑(fullT m)), Sl.ow (Ob.lst (List.map natD (tabsOf m pre))), .sh (.tup [.str "and", .tup (rs.map natD)]), s5, s6, s7, s8, s9, s10] _ _
      repeat walk_at "d"
      refine Dl.sh ?_
      repeat walk_at "d"
      refine ⟨fun _ => ?_, fun z => absurd z (by decide)⟩
      repeat walk_at "d"
      refine Ds.setLc 6 [("ref", 10)] .no (Tgt.name 10 (fun _ => scTables.nd)) (fun _ => blkOk_by (N := ["many", "gates", "full", "tables", "gate", "refs", "told", "table", "one", "leaf", "ref"]) (sc := (defScope sTables)) (by decide +kernel)) (fun _ => scTables.nd) ?_
      refine Di.seq ?_
      repeat walk_at "d"
      refine ⟨by rw [List.length_map]; exact hgo.2, lc_mapG natD (fun r => natD (refT (tabsOf m pre) (fullT m) r)) rs ?_ fun r hr Q' hq' => ?_⟩
      · refine Db.fz 6 rfl ?_
        repeat walk_at "d"
        refine ⟨fun _ => ?_, fun z => absurd z (by decide)⟩
        repeat walk_at "d"
        refine Dl.sh ?_
        repeat walk_at "d"
        refine Ds.for_ (Tgt.name 8 (fun _ => scTables.nd)) ?_
        refine Di.seq ?_
        repeat walk_at "d"
        refine for_mapG (fun r => natD (refT (tabsOf m pre) (fullT m) r)) (fun rs' ρ => ∃ s8, ρ = [Sl.sh (D.int ↑m), Sl.sh (D.tup (List.map Gate.d gs)), Sl.sh (D.int ↑(fullT m)), Sl.ow (Ob.lst (List.map natD (tabsOf m pre))), .sh (.tup [.str "and", .tup (rs.map natD)]), .sh (.tup (rs.map natD)), .sh (.lst (rs.map fun r => natD (refT (tabsOf m pre) (fullT m) r))), .sh (.int (rs'.foldl (fun t r => t &&& refT (tabsOf m pre) (fullT m) r) (fullT m) : Nat)), s8, s9, s10]) rs ⟨_, rfl⟩ (fun pre' r' post' ρ e' h' => ?_) fun ρ h' => ?_
        · obtain ⟨s8, rfl⟩ := h'
          repeat walk_at "d"
          refine Dl.sh ?_
          show De _ ([Sl.sh (D.int ↑m), Sl.sh (D.tup (List.map Gate.d gs)), Sl.sh (D.int ↑(fullT m)), Sl.ow (Ob.lst (List.map natD (tabsOf m pre))), .sh (.tup [.str "and", .tup (rs.map natD)]), .sh (.tup (rs.map natD)), .sh (.lst (rs.map fun r => natD (refT (tabsOf m pre) (fullT m) r))), .sh (.int (pre'.foldl (fun t r => t &&& refT (tabsOf m pre) (fullT m) r) (fullT m) : Nat)), .sh (.int (refT (tabsOf m pre) (fullT m) r' : Nat)), s9, s10]) _ _
          repeat walk_at "d"
          rw [List.foldl_append]
          exact ⟨_, rfl⟩
        · obtain ⟨s8, rfl⟩ := h'
          repeat walk_at "d"
          refine Ds.append 3 rfl (by rw [List.length_map, tabsOf_len, sizeLine_eq]; omega) ?_
          repeat walk_at "d"
          rw [tabsOf_snoc, List.map_append]
          exact ⟨_, _, _, _, _, _, _, rfl⟩
      · refine De.bxor ?_
        refine De.bw 3 rfl ?_
        repeat walk_at "d"
        have hr2 := hgo.1 r hr
        refine ixL (getD_nat (by rw [tabsOf_len]; omega)) ⟨rfl, ?_⟩
        repeat walk_at "d"
        unfold refT natD at hq'
        refine ⟨fun c => ?_, fun c => ?_⟩
        · repeat walk_at "d"
          rw [if_pos (of_decide_eq_true c)] at hq'
          exact hq'
        · repeat walk_at "d"
          rw [if_neg (of_decide_eq_false c)] at hq'
          exact hq'
    | xor a b =>
      show Db _ [Sl.sh (D.int ↑m), Sl.sh (D.tup (List.map Gate.d gs)), Sl.sh (D.int ↑(fullT m)), Sl.ow (Ob.lst (List.map natD (tabsOf m pre))), .sh (.tup [.str "xor", natD a, natD b]), s5, s6, s7, s8, s9, s10] _ _
      repeat walk_at "d"
      refine Dl.sh ?_
      repeat walk_at "d"
      refine ⟨fun z => absurd z (by decide), fun _ => ?_⟩
      repeat walk_at "d"
      show Db _ [Sl.sh (D.int ↑m), Sl.sh (D.tup (List.map Gate.d gs)), Sl.sh (D.int ↑(fullT m)), Sl.ow (Ob.lst (List.map natD (tabsOf m pre))), .sh (.tup [.str "xor", natD a, natD b]), .sh (.tup ([a, b].map natD)), s6, s7, s8, s9, s10] _ _
      repeat walk_at "d"
      refine Ds.setLc 6 [("ref", 10)] .no (Tgt.name 10 (fun _ => scTables.nd)) (fun _ => blkOk_by (N := ["many", "gates", "full", "tables", "gate", "refs", "told", "table", "one", "leaf", "ref"]) (sc := (defScope sTables)) (by decide +kernel)) (fun _ => scTables.nd) ?_
      refine Di.seq ?_
      repeat walk_at "d"
      refine ⟨by rw [sizeLine_eq]; exact Nat.le_of_ble_eq_true rfl, lc_mapG natD (fun r => natD (refT (tabsOf m pre) (fullT m) r)) [a, b] ?_ fun r hr Q' hq' => ?_⟩
      · refine Db.fz 6 rfl ?_
        repeat walk_at "d"
        refine ⟨fun z => absurd z (by decide), fun _ => ?_⟩
        repeat walk_at "d"
        refine ⟨fun _ => ?_, fun z => absurd z (by decide)⟩
        repeat walk_at "d"
        refine Dl.sh ?_
        repeat walk_at "d"
        refine Ds.append 3 rfl (by rw [List.length_map, tabsOf_len, sizeLine_eq]; omega) ?_
        repeat walk_at "d"
        rw [tabsOf_snoc, List.map_append]
        exact ⟨_, _, _, _, _, _, _, rfl⟩
      · refine De.bxor ?_
        refine De.bw 3 rfl ?_
        repeat walk_at "d"
        have hr2 := (show r < 2 * (m + pre.length) from by
          have h2 := hgo.1
          simp only [Gate.ok] at h2
          simp only [List.mem_cons, List.not_mem_nil, or_false] at hr
          rcases hr with rfl | rfl
          · exact h2.1
          · exact h2.2)
        refine ixL (getD_nat (by rw [tabsOf_len]; omega)) ⟨rfl, ?_⟩
        repeat walk_at "d"
        unfold refT natD at hq'
        refine ⟨fun c => ?_, fun c => ?_⟩
        · repeat walk_at "d"
          rw [if_pos (of_decide_eq_true c)] at hq'
          exact hq'
        · repeat walk_at "d"
          rw [if_neg (of_decide_eq_false c)] at hq'
          exact hq'
  · obtain ⟨s4, s5, s6, s7, s8, s9, s10, rfl⟩ := h
    refine Db.fz 3 rfl ?_
    repeat walk_at "d"
    exact ⟨by rw [sizeLine_eq]; exact Nat.le_of_ble_eq_true rfl, hq⟩
end K13
set_option Elab.async false
set_option linter.all false
set_option maxRecDepth 100000
set_option maxHeartbeats 4000000
set_option pp.maxSteps 300
namespace K13
open PySem PySem.Spec PyProof.Rows L2 DL
local macro_rules | `(tactic| walk_at "d") => `(tactic| (first
  | with_reducible refine addN ?_ | with_reducible refine subN (by omega) ?_ | with_reducible refine mulN (by first | exact .inl (by decide) | exact .inr (by decide) | omega) ?_ | with_reducible refine andN ?_ | with_reducible refine orN ?_ | with_reducible refine xorN ?_
  | with_reducible refine modN (by first | decide | omega) ?_ | with_reducible refine fdivN (by first | decide | omega) (by first | decide | omega) ?_ | with_reducible refine shrN ?_ | with_reducible refine shl1 (by omega) ?_
  | with_reducible refine ltN ?_ | with_reducible refine leN ?_ | with_reducible refine gtN ?_ | with_reducible refine geN ?_ | with_reducible refine eqN ?_ | with_reducible refine neN ?_ | with_reducible refine absN ?_ | with_reducible refine minN ?_ | with_reducible refine intB ?_
  | with_reducible refine ixL (by with_unfolding_all rfl) ?_ | with_reducible refine ixT (by with_unfolding_all rfl) ?_
  | with_reducible refine rngN (by first | omega | decide) ?_
  | with_reducible refine lenTm ?_ | with_reducible refine lenLm ?_ | with_reducible refine lenT ?_ | with_reducible refine lenL ?_ | with_reducible refine tupL ?_ | with_reducible refine tupT ?_ | with_reducible refine lstL ?_ | with_reducible refine lstT ?_ | with_reducible refine itmL ?_ | with_reducible refine itmT ?_ | with_reducible refine enmL ?_ | with_reducible refine enmT ?_ | with_reducible refine eqS ?_ | with_reducible refine neS ?_ | with_reducible refine revL ?_
  | ((with_reducible refine idDb ?_); first | refine Db.one ?_ | refine Db.cons ?_ | refine Db.nil ?_)
  | ((with_reducible refine idDs ?_); first | refine Ds.ret ?_ | refine Ds.if_ ?_ | refine Ds.set' 0 ?_ | refine Ds.set' 1 ?_ | refine Ds.set' 2 ?_ | refine Ds.set' 3 ?_ | refine Ds.set' 4 ?_ | refine Ds.set' 5 ?_ | refine Ds.set' 6 ?_ | refine Ds.set' 7 ?_ | refine Ds.set' 8 ?_ | refine Ds.set' 9 ?_ | refine Ds.set' 10 ?_ | refine Ds.set' 11 ?_ | refine Ds.set' 12 ?_ | refine Ds.set' 13 ?_)
  | ((with_reducible refine idDe ?_); first
    | refine De.name 0 rfl ?_ | refine De.name 1 rfl ?_ | refine De.name 2 rfl ?_ | refine De.name 3 rfl ?_ | refine De.name 4 rfl ?_ | refine De.name 5 rfl ?_ | refine De.name 6 rfl ?_ | refine De.name 7 rfl ?_ | refine De.name 8 rfl ?_ | refine De.name 9 rfl ?_ | refine De.name 10 rfl ?_ | refine De.name 11 rfl ?_ | refine De.name 12 rfl ?_ | refine De.name 13 rfl ?_
    | refine De.nat (n := 0) ?_ | refine De.nat (n := 1) ?_ | refine De.nat (n := 2) ?_ | refine De.nat ?_ | refine De.str ?_ | refine De.bl ?_ | refine De.non ?_
    | refine De.add ?_ | refine De.sub ?_ | refine De.mul ?_ | refine De.shl ?_ | refine De.shr ?_ | refine De.band ?_ | refine De.bor ?_ | refine De.bxor ?_ | refine De.mod ?_ | refine De.fdiv ?_ | refine De.pow ?_
    | refine De.eq ?_ | refine De.ne ?_ | refine De.lt ?_ | refine De.le ?_ | refine De.gt ?_ | refine De.ge ?_
    | refine De.chLL ?_ | refine De.chLl ?_
    | refine De.and1 ?_ | refine De.and ?_ | refine De.or ?_ | refine De.not ?_ | refine De.ite ?_
    | refine De.tup ?_ | refine De.lst ?_
    | refine De.rev ?_ | refine De.slLo ?_ | refine De.slHi ?_ | refine De.ix ?_ | refine De.fld ?_
    | refine De.isi (fun _ => Txt.isinstance) ?_ | refine De.len (fun _ => Txt.len) ?_ | refine De.toTup (fun _ => Txt.tuple) ?_ | refine De.toLst (fun _ => Txt.list) ?_ | refine De.toInt (fun _ => Txt.int) ?_ | refine De.allB (fun _ => Txt.all) ?_ | refine De.sum (fun _ => Txt.sum) ?_
    | refine De.min2 (fun _ => Txt.min) ?_ | refine De.abs (fun _ => Txt.abs) ?_ | refine De.sortI (fun _ => Txt.sorted) ?_
    | refine bcls (fun _ => Txt.int) boot_int ?_ | refine bcls (fun _ => Txt.bool) boot_bool ?_ | refine bcls (fun _ => Txt.tuple) boot_tuple ?_ | refine bcls (fun _ => Txt.str) boot_str ?_
    | refine ocls (fun _ => Txt.gS) ?_
    | refine gnat (fun _ => Txt.MOST_LEAVES) ?_ | refine gnat (fun _ => Txt.MOST_GATES) ?_ | refine gnat (fun _ => Txt.MOST_HELD) ?_ | refine gnat (fun _ => Txt.MOST_FREE) ?_ | refine gnat (fun _ => Txt.MOST_LAID) ?_ | refine gnat (fun _ => Txt.MOST_KIN) ?_)
  | ((with_reducible refine idDt ?_); first
    | refine Dt.eq ?_ | refine Dt.ne ?_ | refine Dt.lt ?_ | refine Dt.le ?_ | refine Dt.gt ?_ | refine Dt.ge ?_
    | refine Dt.not ?_ | refine Dt.or2 ?_ | refine Dt.and2 ?_ | refine Dt.or3 ?_ | refine Dt.truthB ?_ | refine Dt.val ?_)
  | ((with_reducible refine idDa ?_); first | refine Da.nil ?_ | refine Da.cons ?_)
  | ((with_reducible refine idDi ?_); first | refine Di.range1 (fun _ => Txt.range) ?_ | refine Di.range2 (fun _ => Txt.range) ?_ | refine Di.enum (fun _ => Txt.enumerate) ?_)
  | refine fun _ => ⟨Txt.cS.cl, Txt.nS _ (by decide), _, rfl, ?_⟩ | refine fun _ => ⟨Txt.cM.cl, Txt.nM _ (by decide), _, rfl, ?_⟩
  | refine fun _ => isi_int rfl ?_ | refine fun _ => isi_bool rfl ?_ | refine fun _ => isi_tuple rfl ?_ | refine fun _ => isi_str rfl ?_))
variable {G : Glo} [Txt G]
/-! ### table_of, row_at, is_saying -/
theorem tabsOf_get {m : Nat} {gs : List Gate} {r : Nat} (h : r < 2 * (m + gs.length)) : r / 2 < (tabsOf m gs).length := by
  rw [tabsOf_len]
  omega
def sayOk (m : Nat) (gs : List Gate) (r : Nat) : Prop := m ≤ 16 ∧ gs.length ≤ 4000 ∧ gatesOk m gs ∧ r < 2 * (m + gs.length)
def sayT (m : Nat) (gs : List Gate) (r : Nat) : Nat := refT (tabsOf m gs) (fullT m) r
abbrev sTableOf : Stmt := topS 19
abbrev NTableOf : List Str := ["saying", "tables", "full"]
theorem scTableOf : FnScope NTableOf ["saying"] (defScope sTableOf) := ⟨rfl, rfl, rfl, by decide +kernel, rfl, by decide +kernel, by decide +kernel⟩
def spTableOf (G : Glo) [Txt G] : DSpec := fun ds Q => ∃ (m r : Nat) (gs : List Gate), ds = [sayD (Txt.CS G) m gs r] ∧ sayOk m gs r ∧ Q (natD (sayT m gs r))
theorem ok_table_of {f : Addr} {fd : FuncData} {x qual : Str} (F : Fun G.K x qual sTableOf f fd) (cT : Callee G "tables_of" spTables 2) : FnOk G.P G.w G.K G.mg G.base CX0 3 f fd ["saying"] (spD G.K (spTableOf G)) := by
  refine defD F scTableOf (fun ds Q h => by obtain ⟨m, r, gs, rfl, _⟩ := h; rfl) (fun ds Q h => ?_)
  obtain ⟨m, r, gs, rfl, ⟨hm, hl, hg, hr⟩, hq⟩ := h
  show Db _ (rho0 _ [sayD (Txt.CS G) m gs r]) _ _
  repeat walk_at "d"
  refine Ds.unp (Tgt.two 1 2 (fun _ => scTableOf.nd)) ?_
  refine De.call cT ?_
  repeat walk_at "d"
  refine ⟨m, gs, rfl, hm, hl, hg, _, rfl, ?_⟩
  repeat walk_at "d"
  refine ixL (getD_nat (tabsOf_get hr)) ?_
  repeat walk_at "d"
  refine ⟨fun c => ?_, fun c => ?_⟩
  · repeat walk_at "d"
    unfold sayT refT at hq
    rw [if_pos (of_decide_eq_true c)] at hq
    exact hq
  · repeat walk_at "d"
    unfold sayT refT at hq
    rw [if_neg (of_decide_eq_false c)] at hq
    exact hq
abbrev sRowAt : Stmt := topS 20
abbrev NRowAt : List Str := ["many", "index", "leaf"]
theorem scRowAt : FnScope NRowAt ["many", "index"] (defScope sRowAt) := ⟨rfl, rfl, rfl, by decide +kernel, rfl, by decide +kernel, by decide +kernel⟩
def rowAt (m idx : Nat) : List Bool := (List.range m).map fun l => idx.testBit (m - 1 - l)
theorem bit_eq (n i : Nat) : decide (n >>> i &&& 1 = 1) = n.testBit i := by
  rw [Nat.and_comm]
  unfold Nat.testBit
  rcases Nat.mod_two_eq_zero_or_one (n >>> i) with h | h <;> simp [Nat.one_and_eq_mod_two, h]
def spRowAt : DSpec := fun ds Q => ∃ m i : Nat, ds = [natD m, natD i] ∧ m ≤ 40 ∧ Q (.tup ((rowAt m i).map D.bl))
theorem ok_row_at {f : Addr} {fd : FuncData} {x qual : Str} (F : Fun G.K x qual sRowAt f fd) : FnOk G.P G.w G.K G.mg G.base CX0 1 f fd ["many", "index"] (spD G.K spRowAt) := by
  refine defD F scRowAt (fun ds Q h => by obtain ⟨m, i, rfl, _⟩ := h; rfl) (fun ds Q h => ?_)
  obtain ⟨m, i, rfl, hm, hq⟩ := h
  repeat walk_at "d"
  refine De.lc [("leaf", 2)] .no (Tgt.name 2 (fun _ => scRowAt.nd)) (fun _ => blkOk_by (N := ["many", "index", "leaf"]) (sc := (defScope sRowAt)) (by decide +kernel)) (fun _ => scRowAt.nd) ?_
  repeat walk_at "d"
  refine ⟨by rw [natsD_len, sizeLine_eq]; omega, lc_nats (fun l => D.bl (i.testBit (m - 1 - l))) m ?_ fun l hl Q' hq' => ?_⟩
  · repeat walk_at "d"
    unfold rowAt at hq
    rw [List.map_map] at hq
    exact hq
  · repeat walk_at "d"
    rw [bit_eq]
    exact hq'
abbrev sIsSaying : Stmt := topS 21
theorem scIsSaying : FnScope ["thing", "many"] ["thing", "many"] (defScope sIsSaying) := ⟨rfl, rfl, rfl, by decide +kernel, rfl, by decide +kernel, by decide +kernel⟩
/-- no saying, but of the kinds that the law draws -/
def noSay : D → Bool
  | .non => true
  | .int _ => true
  | .str _ => true
  | .tup _ => true
  | _ => false
/-- d is a saying over n leaves (b), or not -/
def saysN (G : Glo) [Txt G] (d : D) (n : Nat) (b : Bool) : Prop := (∃ (m r : Nat) (gs : List Gate), d = sayD (Txt.CS G) m gs r ∧ b = decide (m = n)) ∨ (noSay d = true ∧ b = false)
def spIsSaying (G : Glo) [Txt G] : DSpec := fun ds Q => ∃ (d : D) (n : Nat) (b : Bool), ds = [d, natD n] ∧ saysN G d n b ∧ Q (.bl b)
theorem isi_say {d : D} {Q : DQ} (h : noSay d = true) (q : Q (.bl false)) : dIsi G.K [d, .raw (.ref (Txt.CS G))] Q := by
  cases d with
  | non => exact ⟨_, _, false, rfl, .own _, Txt.kNS, q⟩
  | int _ => exact ⟨_, _, false, rfl, .own _, Txt.kIS, q⟩
  | str _ => exact ⟨_, _, false, rfl, .own _, Txt.kTS, q⟩
  | tup _ => exact ⟨_, _, false, rfl, .own _, Txt.kUS, q⟩
  | _ => cases h
theorem isi_saying {m r : Nat} {gs : List Gate} {Q : DQ} (q : Q (.bl true)) : dIsi G.K [sayD (Txt.CS G) m gs r, .raw (.ref (Txt.CS G))] Q := ⟨_, _, true, ⟨rfl, Txt.cS⟩, .own _, Txt.kSS, q⟩
theorem ok_is_saying {f : Addr} {fd : FuncData} {x qual : Str} (F : Fun G.K x qual sIsSaying f fd) (cI : Callee G "is_integer" spIsInteger 1) : FnOk G.P G.w G.K G.mg G.base CX0 2 f fd ["thing", "many"] (spD G.K (spIsSaying G)) := by
  refine defD F scIsSaying (fun ds Q h => by obtain ⟨d, n, b, rfl, _⟩ := h; rfl) (fun ds Q h => ?_)
  obtain ⟨d, n, b, rfl, h, hq⟩ := h
  rcases h with ⟨m, r, gs, rfl, rfl⟩ | ⟨hn, rfl⟩
  · repeat walk_at "d"
    refine fun _ => isi_saying ⟨fun _ => ?_, fun z => nomatch z⟩
    repeat walk_at "d"
    refine De.call cI ?_
    repeat walk_at "d"
    refine ⟨_, rfl, rfl, fun _ => ?_, fun z => nomatch z⟩
    repeat walk_at "d"
    exact hq
  · repeat walk_at "d"
    refine fun _ => isi_say hn ⟨fun z => (nomatch z), fun _ => hq⟩
end K13
set_option Elab.async false
set_option linter.all false
set_option maxRecDepth 100000
set_option maxHeartbeats 4000000
set_option pp.maxSteps 300
namespace K13
open PySem PySem.Spec PyProof.Rows L2 DL
local macro_rules | `(tactic| walk_at "d") => `(tactic| (first
  | with_reducible refine addN ?_ | with_reducible refine subN (by omega) ?_ | with_reducible refine mulN (by first | exact .inl (by decide) | exact .inr (by decide) | omega) ?_ | with_reducible refine andN ?_ | with_reducible refine orN ?_ | with_reducible refine xorN ?_
  | with_reducible refine modN (by first | decide | omega) ?_ | with_reducible refine fdivN (by first | decide | omega) (by first | decide | omega) ?_ | with_reducible refine shrN ?_ | with_reducible refine shl1 (by omega) ?_
  | with_reducible refine ltN ?_ | with_reducible refine leN ?_ | with_reducible refine gtN ?_ | with_reducible refine geN ?_ | with_reducible refine eqN ?_ | with_reducible refine neN ?_ | with_reducible refine absN ?_ | with_reducible refine minN ?_ | with_reducible refine intB ?_
  | with_reducible refine ixL (by with_unfolding_all rfl) ?_ | with_reducible refine ixT (by with_unfolding_all rfl) ?_
  | with_reducible refine rngN (by first | omega | decide) ?_
  | with_reducible refine lenTm ?_ | with_reducible refine lenLm ?_ | with_reducible refine lenT ?_ | with_reducible refine lenL ?_ | with_reducible refine tupL ?_ | with_reducible refine tupT ?_ | with_reducible refine lstL ?_ | with_reducible refine lstT ?_ | with_reducible refine itmL ?_ | with_reducible refine itmT ?_ | with_reducible refine enmL ?_ | with_reducible refine enmT ?_ | with_reducible refine eqS ?_ | with_reducible refine neS ?_ | with_reducible refine revL ?_
  | ((with_reducible refine idDb ?_); first | refine Db.one ?_ | refine Db.cons ?_ | refine Db.nil ?_)
  | ((with_reducible refine idDs ?_); first | refine Ds.ret ?_ | refine Ds.if_ ?_ | refine Ds.set' 0 ?_ | refine Ds.set' 1 ?_ | refine Ds.set' 2 ?_ | refine Ds.set' 3 ?_ | refine Ds.set' 4 ?_ | refine Ds.set' 5 ?_ | refine Ds.set' 6 ?_ | refine Ds.set' 7 ?_ | refine Ds.set' 8 ?_ | refine Ds.set' 9 ?_ | refine Ds.set' 10 ?_ | refine Ds.set' 11 ?_ | refine Ds.set' 12 ?_ | refine Ds.set' 13 ?_)
  | ((with_reducible refine idDe ?_); first
    | refine De.name 0 rfl ?_ | refine De.name 1 rfl ?_ | refine De.name 2 rfl ?_ | refine De.name 3 rfl ?_ | refine De.name 4 rfl ?_ | refine De.name 5 rfl ?_ | refine De.name 6 rfl ?_ | refine De.name 7 rfl ?_ | refine De.name 8 rfl ?_ | refine De.name 9 rfl ?_ | refine De.name 10 rfl ?_ | refine De.name 11 rfl ?_ | refine De.name 12 rfl ?_ | refine De.name 13 rfl ?_
    | refine De.nat (n := 0) ?_ | refine De.nat (n := 1) ?_ | refine De.nat (n := 2) ?_ | refine De.nat ?_ | refine De.str ?_ | refine De.bl ?_ | refine De.non ?_
    | refine De.add ?_ | refine De.sub ?_ | refine De.mul ?_ | refine De.shl ?_ | refine De.shr ?_ | refine De.band ?_ | refine De.bor ?_ | refine De.bxor ?_ | refine De.mod ?_ | refine De.fdiv ?_ | refine De.pow ?_
    | refine De.eq ?_ | refine De.ne ?_ | refine De.lt ?_ | refine De.le ?_ | refine De.gt ?_ | refine De.ge ?_
    | refine De.chLL ?_ | refine De.chLl ?_
    | refine De.and1 ?_ | refine De.and ?_ | refine De.or ?_ | refine De.not ?_ | refine De.ite ?_
    | refine De.tup ?_ | refine De.lst ?_
    | refine De.rev ?_ | refine De.slLo ?_ | refine De.slHi ?_ | refine De.ix ?_ | refine De.fld ?_
    | refine De.isi (fun _ => Txt.isinstance) ?_ | refine De.len (fun _ => Txt.len) ?_ | refine De.toTup (fun _ => Txt.tuple) ?_ | refine De.toLst (fun _ => Txt.list) ?_ | refine De.toInt (fun _ => Txt.int) ?_ | refine De.allB (fun _ => Txt.all) ?_ | refine De.sum (fun _ => Txt.sum) ?_
    | refine De.min2 (fun _ => Txt.min) ?_ | refine De.abs (fun _ => Txt.abs) ?_ | refine De.sortI (fun _ => Txt.sorted) ?_
    | refine bcls (fun _ => Txt.int) boot_int ?_ | refine bcls (fun _ => Txt.bool) boot_bool ?_ | refine bcls (fun _ => Txt.tuple) boot_tuple ?_ | refine bcls (fun _ => Txt.str) boot_str ?_
    | refine ocls (fun _ => Txt.gS) ?_
    | refine gnat (fun _ => Txt.MOST_LEAVES) ?_ | refine gnat (fun _ => Txt.MOST_GATES) ?_ | refine gnat (fun _ => Txt.MOST_HELD) ?_ | refine gnat (fun _ => Txt.MOST_FREE) ?_ | refine gnat (fun _ => Txt.MOST_LAID) ?_ | refine gnat (fun _ => Txt.MOST_KIN) ?_)
  | ((with_reducible refine idDt ?_); first
    | refine Dt.eq ?_ | refine Dt.ne ?_ | refine Dt.lt ?_ | refine Dt.le ?_ | refine Dt.gt ?_ | refine Dt.ge ?_
    | refine Dt.not ?_ | refine Dt.or2 ?_ | refine Dt.and2 ?_ | refine Dt.or3 ?_ | refine Dt.truthB ?_ | refine Dt.val ?_)
  | ((with_reducible refine idDa ?_); first | refine Da.nil ?_ | refine Da.cons ?_)
  | ((with_reducible refine idDi ?_); first | refine Di.range1 (fun _ => Txt.range) ?_ | refine Di.range2 (fun _ => Txt.range) ?_ | refine Di.enum (fun _ => Txt.enumerate) ?_)
  | refine fun _ => ⟨Txt.cS.cl, Txt.nS _ (by decide), _, rfl, ?_⟩ | refine fun _ => ⟨Txt.cM.cl, Txt.nM _ (by decide), _, rfl, ?_⟩
  | refine fun _ => isi_int rfl ?_ | refine fun _ => isi_bool rfl ?_ | refine fun _ => isi_tuple rfl ?_ | refine fun _ => isi_str rfl ?_))
variable {G : Glo} [Txt G]
/-! ### Machine -/
theorem all_trueM {α : Type} (l : List α) {Q : DQ} (h : Q (.bl true)) : dAll [.lst (l.map fun _ => D.bl true)] Q := by
  refine ⟨List.replicate l.length true, ?_, ?_⟩
  · rw [List.map_const', List.map_replicate]
  · rw [List.all_replicate]
    simpa using h
structure Mach where
  held : Nat
  free : Nat
  gates : List Gate
  lt : Nat
  steps : List Nat
  start : D
abbrev Mach.fs (M : Mach) : List D := [natD M.held, natD M.free, .tup (M.gates.map Gate.d), natD M.lt, .tup (M.steps.map natD), M.start]
abbrev Mach.d (G : Glo) [Txt G] (M : Mach) : D := .ins (Txt.CM G) ["held", "free", "gates", "let", "steps", "start"] M.fs
structure Mach.Ok (G : Glo) [Txt G] (M : Mach) : Prop where
  held : M.held ≤ 16
  free : M.free ≤ 8
  gl : M.gates.length ≤ 4000
  gates : gatesOk (M.held + M.free) M.gates
  lt : M.lt < 2 * (M.held + M.free + M.gates.length)
  sl : M.steps.length = M.held
  steps : ∀ r ∈ M.steps, r < 2 * (M.held + M.free + M.gates.length)
  start : saysN G M.start M.held true
abbrev sMachInit : Stmt := inClass (topS 26) 0
abbrev NMachInit : List Str := ["self", "held", "free", "gates", "let", "steps", "start", "leaves", "at", "gate", "ref"]
theorem scMachInit : FnScope NMachInit ["self", "held", "free", "gates", "let", "steps", "start"] (defScope sMachInit) := ⟨rfl, rfl, rfl, by decide +kernel, rfl, by decide +kernel, by decide +kernel⟩
def spMachInit (G : Glo) [Txt G] : SpecI := fun ds Q => ∃ M : Mach, ds = M.fs ∧ M.Ok G ∧ Q ["held", "free", "gates", "let", "steps", "start"] M.fs
theorem ok_mach_init {f : Addr} {fd : FuncData} {x qual : Str} (F : Fun G.K x qual sMachInit f fd) (cN : Callee G "is_number" spIsNumber 2) (cR : Callee G "is_ref" spIsRef 2) (cG : Callee G "is_gate" spIsGate 3) (cS : Callee G "is_saying" (spIsSaying G) 2) : FnOk G.P G.w G.K G.mg G.base CX0 4 f fd ["self", "held", "free", "gates", "let", "steps", "start"] (spI G.K (Txt.CM G) (spMachInit G)) := by
  refine defInit F scMachInit (fun ds Q h => by obtain ⟨M, rfl, _⟩ := h; rfl) (fun x ds Q h => ?_)
  obtain ⟨M, rfl, ok, hq⟩ := h
  obtain ⟨h, fr, gs, lt, ss, st⟩ := M
  obtain ⟨hh, hf, hgl, hg, hlt, hsl, hs, hst⟩ := ok
  dsimp only at hh hf hgl hg hlt hsl hs hst
  show Db _ (.ow (.ins x (Txt.CM G) [] []) :: rho0 _ [natD h, natD fr, .tup (gs.map Gate.d), natD lt, .tup (ss.map natD), st]) _ _
  repeat walk_at "d"
  refine De.call cN ?_
  repeat walk_at "d"
  refine ⟨h, 16, rfl, ?_⟩
  rw [decide_eq_true hh]
  refine ⟨fun z => (nomatch z), fun _ => ?_⟩
  repeat walk_at "d"
  refine De.call cN ?_
  repeat walk_at "d"
  refine ⟨fr, 8, rfl, ?_⟩
  rw [decide_eq_true hf]
  refine ⟨fun z => (nomatch z), fun _ => ?_⟩
  repeat walk_at "d"
  refine Dl.sh ?_
  repeat walk_at "d"
  refine ⟨fun z => (nomatch z), fun _ => ?_⟩
  repeat walk_at "d"
  rw [decide_eq_false (show ¬ 4000 < gs.length by omega)]
  refine ⟨fun z => (nomatch z), fun _ => ?_⟩
  repeat walk_at "d"
  refine De.lc [("at", 8), ("gate", 9)] .no (Tgt.two 8 9 (fun _ => scMachInit.nd)) (fun _ => blkOk_by (N := ["self", "held", "free", "gates", "let", "steps", "start", "leaves", "at", "gate", "ref"]) (sc := (defScope sMachInit)) (by decide +kernel)) (fun _ => scMachInit.nd) ?_
  repeat walk_at "d"
  refine ⟨by rw [enumD_len, List.length_map, sizeLine_eq]; omega, lc_enum (fun _ => .bl true) _ ?_ fun i d hd Q' hq' => ?_⟩
  rotate_left
  · rw [List.getElem?_map] at hd
    obtain ⟨g, eg, rfl⟩ : ∃ g, gs[i]? = some g ∧ g.d = d := by
      cases q : gs[i]? with
      | none => rw [q] at hd; cases hd
      | some g => rw [q] at hd; exact ⟨g, rfl, Option.some.inj hd⟩
    repeat walk_at "d"
    refine De.call cG ?_
    repeat walk_at "d"
    exact ⟨g, h + fr + i, rfl, (hg i g eg).1, (hg i g eg).2, hq'⟩
  repeat walk_at "d"
  refine all_true _ ?_
  refine ⟨fun z => (nomatch z), fun _ => ?_⟩
  repeat walk_at "d"
  refine De.call cR ?_
  repeat walk_at "d"
  refine ⟨lt, h + fr + gs.length, rfl, hlt, fun z => (nomatch z), fun _ => ?_⟩
  repeat walk_at "d"
  refine ⟨fun z => (nomatch z), fun _ => ?_⟩
  repeat walk_at "d"
  rw [decide_eq_true hsl]
  refine ⟨fun z => (nomatch z), fun _ => ?_⟩
  repeat walk_at "d"
  refine De.lc [("ref", 10)] .no (Tgt.name 10 (fun _ => scMachInit.nd)) (fun _ => blkOk_by (N := ["self", "held", "free", "gates", "let", "steps", "start", "leaves", "at", "gate", "ref"]) (sc := (defScope sMachInit)) (by decide +kernel)) (fun _ => scMachInit.nd) ?_
  refine Di.seq ?_
  repeat walk_at "d"
  refine ⟨by rw [List.length_map, sizeLine_eq]; omega, lc_mapG natD (fun _ => .bl true) ss ?_ fun r hr Q' hq' => ?_⟩
  rotate_left
  · refine De.call cR ?_
    repeat walk_at "d"
    exact ⟨r, h + fr + gs.length, rfl, hs r hr, hq'⟩
  repeat walk_at "d"
  refine all_trueM _ ?_
  refine ⟨fun z => (nomatch z), fun _ => ?_⟩
  repeat walk_at "d"
  refine De.call cS ?_
  repeat walk_at "d"
  refine ⟨st, h, true, rfl, hst, fun z => (nomatch z), fun _ => ?_⟩
  iterate 6
    repeat walk_at "d"
    refine Ds.setFld 0 rfl (fun _ => Txt.cM.cl) (fun _ => Txt.nM _ (by decide)) (by decide) (by decide) ?_
  repeat walk_at "d"
  exact ⟨_, _, rfl, hq⟩
end K13
set_option Elab.async false
set_option linter.all false
set_option maxRecDepth 100000
set_option maxHeartbeats 4000000
set_option pp.maxSteps 300
namespace K13
open PySem PySem.Spec PyProof.Rows L2 DL
local macro_rules | `(tactic| walk_at "d") => `(tactic| (first
  | with_reducible refine addN ?_ | with_reducible refine subN (by omega) ?_ | with_reducible refine mulN (by first | exact .inl (by decide) | exact .inr (by decide) | omega) ?_ | with_reducible refine andN ?_ | with_reducible refine orN ?_ | with_reducible refine xorN ?_
  | with_reducible refine modN (by first | decide | omega) ?_ | with_reducible refine fdivN (by first | decide | omega) (by first | decide | omega) ?_ | with_reducible refine shrN ?_ | with_reducible refine shl1 (by omega) ?_
  | with_reducible refine ltN ?_ | with_reducible refine leN ?_ | with_reducible refine gtN ?_ | with_reducible refine geN ?_ | with_reducible refine eqN ?_ | with_reducible refine neN ?_ | with_reducible refine absN ?_ | with_reducible refine minN ?_ | with_reducible refine intB ?_
  | with_reducible refine ixL (by with_unfolding_all rfl) ?_ | with_reducible refine ixT (by with_unfolding_all rfl) ?_
  | with_reducible refine rngN (by first | omega | decide) ?_
  | with_reducible refine lenTm ?_ | with_reducible refine lenLm ?_ | with_reducible refine lenT ?_ | with_reducible refine lenL ?_ | with_reducible refine tupL ?_ | with_reducible refine tupT ?_ | with_reducible refine lstL ?_ | with_reducible refine lstT ?_ | with_reducible refine itmL ?_ | with_reducible refine itmT ?_ | with_reducible refine enmL ?_ | with_reducible refine enmT ?_ | with_reducible refine eqS ?_ | with_reducible refine neS ?_ | with_reducible refine revL ?_
  | ((with_reducible refine idDb ?_); first | refine Db.one ?_ | refine Db.cons ?_ | refine Db.nil ?_)
  | ((with_reducible refine idDs ?_); first | refine Ds.ret ?_ | refine Ds.if_ ?_ | refine Ds.set' 0 ?_ | refine Ds.set' 1 ?_ | refine Ds.set' 2 ?_ | refine Ds.set' 3 ?_ | refine Ds.set' 4 ?_ | refine Ds.set' 5 ?_ | refine Ds.set' 6 ?_ | refine Ds.set' 7 ?_ | refine Ds.set' 8 ?_ | refine Ds.set' 9 ?_ | refine Ds.set' 10 ?_ | refine Ds.set' 11 ?_ | refine Ds.set' 12 ?_ | refine Ds.set' 13 ?_)
  | ((with_reducible refine idDe ?_); first
    | refine De.name 0 rfl ?_ | refine De.name 1 rfl ?_ | refine De.name 2 rfl ?_ | refine De.name 3 rfl ?_ | refine De.name 4 rfl ?_ | refine De.name 5 rfl ?_ | refine De.name 6 rfl ?_ | refine De.name 7 rfl ?_ | refine De.name 8 rfl ?_ | refine De.name 9 rfl ?_ | refine De.name 10 rfl ?_ | refine De.name 11 rfl ?_ | refine De.name 12 rfl ?_ | refine De.name 13 rfl ?_
    | refine De.nat (n := 0) ?_ | refine De.nat (n := 1) ?_ | refine De.nat (n := 2) ?_ | refine De.nat ?_ | refine De.str ?_ | refine De.bl ?_ | refine De.non ?_
    | refine De.add ?_ | refine De.sub ?_ | refine De.mul ?_ | refine De.shl ?_ | refine De.shr ?_ | refine De.band ?_ | refine De.bor ?_ | refine De.bxor ?_ | refine De.mod ?_ | refine De.fdiv ?_ | refine De.pow ?_
    | refine De.eq ?_ | refine De.ne ?_ | refine De.lt ?_ | refine De.le ?_ | refine De.gt ?_ | refine De.ge ?_
    | refine De.chLL ?_ | refine De.chLl ?_
    | refine De.and1 ?_ | refine De.and ?_ | refine De.or ?_ | refine De.not ?_ | refine De.ite ?_
    | refine De.tup ?_ | refine De.lst ?_
    | refine De.rev ?_ | refine De.slLo ?_ | refine De.slHi ?_ | refine De.ix ?_ | refine De.fld ?_
    | refine De.isi (fun _ => Txt.isinstance) ?_ | refine De.len (fun _ => Txt.len) ?_ | refine De.toTup (fun _ => Txt.tuple) ?_ | refine De.toLst (fun _ => Txt.list) ?_ | refine De.toInt (fun _ => Txt.int) ?_ | refine De.allB (fun _ => Txt.all) ?_ | refine De.sum (fun _ => Txt.sum) ?_
    | refine De.min2 (fun _ => Txt.min) ?_ | refine De.abs (fun _ => Txt.abs) ?_ | refine De.sortI (fun _ => Txt.sorted) ?_
    | refine bcls (fun _ => Txt.int) boot_int ?_ | refine bcls (fun _ => Txt.bool) boot_bool ?_ | refine bcls (fun _ => Txt.tuple) boot_tuple ?_ | refine bcls (fun _ => Txt.str) boot_str ?_
    | refine ocls (fun _ => Txt.gS) ?_
    | refine gnat (fun _ => Txt.MOST_LEAVES) ?_ | refine gnat (fun _ => Txt.MOST_GATES) ?_ | refine gnat (fun _ => Txt.MOST_HELD) ?_ | refine gnat (fun _ => Txt.MOST_FREE) ?_ | refine gnat (fun _ => Txt.MOST_LAID) ?_ | refine gnat (fun _ => Txt.MOST_KIN) ?_)
  | ((with_reducible refine idDt ?_); first
    | refine Dt.eq ?_ | refine Dt.ne ?_ | refine Dt.lt ?_ | refine Dt.le ?_ | refine Dt.gt ?_ | refine Dt.ge ?_
    | refine Dt.not ?_ | refine Dt.or2 ?_ | refine Dt.and2 ?_ | refine Dt.or3 ?_ | refine Dt.truthB ?_ | refine Dt.val ?_)
  | ((with_reducible refine idDa ?_); first | refine Da.nil ?_ | refine Da.cons ?_)
  | ((with_reducible refine idDi ?_); first | refine Di.range1 (fun _ => Txt.range) ?_ | refine Di.range2 (fun _ => Txt.range) ?_ | refine Di.enum (fun _ => Txt.enumerate) ?_)
  | refine fun _ => ⟨Txt.cS.cl, Txt.nS _ (by decide), _, rfl, ?_⟩ | refine fun _ => ⟨Txt.cM.cl, Txt.nM _ (by decide), _, rfl, ?_⟩
  | refine fun _ => isi_int rfl ?_ | refine fun _ => isi_bool rfl ?_ | refine fun _ => isi_tuple rfl ?_ | refine fun _ => isi_str rfl ?_))
variable {G : Glo} [Txt G]
/-! ### graph_of -/
def Mach.tabs (M : Mach) : List Nat := tabsOf (M.held + M.free) M.gates
def Mach.full (M : Mach) : Nat := fullT (M.held + M.free)
def Mach.later (M : Mach) (idx : Nat) : Nat := M.steps.foldl (fun l r => 2 * l + (refT M.tabs M.full r >>> idx &&& 1)) 0
def pairD (p : Nat × Nat) : D := .tup [natD p.1, natD p.2]
def Mach.row (M : Mach) (st : Nat) : List (Nat × Nat) := (List.range (2 ^ M.free)).map fun mv => (mv, M.later (st * 2 ^ M.free + mv))
def Mach.graph (M : Mach) : List (List (Nat × Nat)) := (List.range (2 ^ M.held)).map M.row
def graphD (g : List (List (Nat × Nat))) : D := .lst (g.map fun r => .lst (r.map pairD))
structure Mach.Go (G : Glo) [Txt G] (M : Mach) : Prop where
  ok : M.Ok G
  fit : M.held + M.free ≤ 16
  lets : ∀ i, i < 2 ^ (M.held + M.free) → (refT M.tabs M.full M.lt).testBit i = true
abbrev sGraph : Stmt := topS 28
abbrev NGraph : List Str := ["machine", "leaves", "tables", "full", "let", "steps", "found", "stand", "pairs", "move", "index", "later", "step", "ref"]
theorem scGraph : FnScope NGraph ["machine"] (defScope sGraph) := ⟨rfl, rfl, rfl, by decide +kernel, rfl, by decide +kernel, by decide +kernel⟩
def spGraph (G : Glo) [Txt G] : DSpec := fun ds Q => ∃ M : Mach, ds = [M.d G] ∧ M.Go G ∧ Q (graphD M.graph)
theorem bit1 {n i : Nat} (h : n.testBit i = true) : n >>> i &&& 1 = 1 := by
  have e := bit_eq n i
  rw [h] at e
  exact of_decide_eq_true e
theorem refT_t {tabs : List Nat} {full r : Nat} (c : decide (r % 2 = 1) = true) : natD (tabs.getD (r / 2) 0 ^^^ full) = natD (refT tabs full r) := by
  unfold refT
  rw [if_pos (of_decide_eq_true c)]
theorem refT_f {tabs : List Nat} {full r : Nat} (c : decide (r % 2 = 1) = false) : natD (tabs.getD (r / 2) 0 ^^^ 0) = natD (refT tabs full r) := by
  unfold refT
  rw [if_neg (of_decide_eq_false c)]
theorem ok_graph {f : Addr} {fd : FuncData} {x qual : Str} (F : Fun G.K x qual sGraph f fd) (cT : Callee G "tables_of" spTables 2) : FnOk G.P G.w G.K G.mg G.base CX0 3 f fd ["machine"] (spD G.K (spGraph G)) := by
  refine defD F scGraph (fun ds Q h => by obtain ⟨M, rfl, _⟩ := h; rfl) (fun ds Q h => ?_)
  obtain ⟨M, rfl, ⟨⟨hh, hf, hgl, hg, hlt, hsl, hs, hst⟩, hfit, hlet⟩, hq⟩ := h
  have hm1 : 2 ^ M.held ≤ 2 ^ 16 := Nat.pow_le_pow_right (by decide) hh
  have hm2 : 2 ^ M.free ≤ 2 ^ 8 := Nat.pow_le_pow_right (by decide) hf
  have tl : M.tabs.length = M.held + M.free + M.gates.length := tabsOf_len _ _
  have gl : ∀ r, r < 2 * (M.held + M.free + M.gates.length) → r / 2 < M.tabs.length := fun r h => by rw [tl]; omega
  repeat walk_at "d"
  refine Dl.sh ?_
  repeat walk_at "d"
  refine Ds.unp (Tgt.two 2 3 (fun _ => scGraph.nd)) ?_
  refine De.call cT ?_
  repeat walk_at "d"
  refine ⟨_, M.gates, rfl, hfit, hgl, hg, _, rfl, ?_⟩
  show Db _ [.sh (M.d G), .sh (natD (M.held + M.free)), .sh (.lst (M.tabs.map natD)), .sh (natD M.full), .no, .no, .no, .no, .no, .no, .no, .no, .no, .no] _ _
  repeat walk_at "d"
  refine Dl.sh (De.val (natD (refT M.tabs M.full M.lt)) ?_ ?_)
  · repeat walk_at "d"
    refine ixL (getD_nat (gl _ hlt)) ?_
    repeat walk_at "d"
    refine ⟨fun c => ?_, fun c => ?_⟩
    · repeat walk_at "d"
      exact refT_t c
    · repeat walk_at "d"
      exact refT_f c
  repeat walk_at "d"
  refine Ds.setLc 5 [("ref", 13)] .no (Tgt.name 13 (fun _ => scGraph.nd)) (fun _ => blkOk_by (N := ["machine", "leaves", "tables", "full", "let", "steps", "found", "stand", "pairs", "move", "index", "later", "step", "ref"]) (sc := (defScope sGraph)) (by decide +kernel)) (fun _ => scGraph.nd) ?_
  refine Di.seq ?_
  repeat walk_at "d"
  refine ⟨by rw [List.length_map, sizeLine_eq]; omega, lc_mapG natD (fun r => natD (refT M.tabs M.full r)) M.steps ?_ fun r hr Q' hq' => De.val (natD (refT M.tabs M.full r)) ?_ hq'⟩
  rotate_left
  · repeat walk_at "d"
    refine ixL (getD_nat (gl _ (hs r hr))) ?_
    repeat walk_at "d"
    refine ⟨fun c => ?_, fun c => ?_⟩
    · repeat walk_at "d"
      exact refT_t c
    · repeat walk_at "d"
      exact refT_f c
  refine Db.fz 5 rfl ?_
  repeat walk_at "d"
  refine Dl.lst ?_
  repeat walk_at "d"
  refine ⟨Nat.zero_le _, ?_⟩
  have tc : ∀ {a b : Nat}, a ≤ b → b ≤ 2 ^ 16 → a ≤ sizeLine := fun h1 h2 => by rw [sizeLine_eq]; omega
  have pre : ∀ (a b : D), True := fun _ _ => trivial
  repeat walk_at "d"
  refine Ds.for_ (Tgt.name 7 (fun _ => scGraph.nd)) ?_
  repeat walk_at "d"
  refine for_nats (fun i ρ => ∃ s7 s8 s9 s10 s11 s12 s13, ρ = [.sh (M.d G), .sh (natD (M.held + M.free)), .sh (.lst (M.tabs.map natD)), .sh (natD M.full), .sh (natD (refT M.tabs M.full M.lt)), .sh (.lst (M.steps.map fun r => natD (refT M.tabs M.full r))), .ow (.lst ((List.range i).map fun st => .lst ((M.row st).map pairD))), s7, s8, s9, s10, s11, s12, s13]) ⟨_, _, _, _, _, _, _, rfl⟩ (fun st ρ hst h => ?_) fun ρ h => ?_
  · obtain ⟨s7, s8, s9, s10, s11, s12, s13, rfl⟩ := h
    repeat walk_at "d"
    refine Dl.lst ?_
    repeat walk_at "d"
    refine ⟨Nat.zero_le _, ?_⟩
    repeat walk_at "d"
    refine Ds.for_ (Tgt.name 9 (fun _ => scGraph.nd)) ?_
    repeat walk_at "d"
    refine for_nats (fun i ρ => ∃ s9 s10 s11 s12, ρ = [.sh (M.d G), .sh (natD (M.held + M.free)), .sh (.lst (M.tabs.map natD)), .sh (natD M.full), .sh (natD (refT M.tabs M.full M.lt)), .sh (.lst (M.steps.map fun r => natD (refT M.tabs M.full r))), .ow (.lst ((List.range st).map fun st => .lst ((M.row st).map pairD))), .sh (natD st), .ow (.lst ((List.range i).map fun mv => pairD (mv, M.later (st * 2 ^ M.free + mv)))), s9, s10, s11, s12, s13]) ⟨_, _, _, _, rfl⟩ (fun mv ρ hmv h => ?_) fun ρ h => ?_
    · obtain ⟨s9, s10, s11, s12, rfl⟩ := h
      repeat walk_at "d"
      refine Dl.sh ?_
      repeat walk_at "d"
      refine shlN 16 (by omega) (by omega) ?_
      repeat walk_at "d"
      have hix : st * 2 ^ M.free + mv < 2 ^ (M.held + M.free) := by
        rw [Nat.pow_add]
        calc st * 2 ^ M.free + mv < st * 2 ^ M.free + 2 ^ M.free := by omega
          _ = (st + 1) * 2 ^ M.free := by rw [Nat.add_mul, Nat.one_mul]
          _ ≤ 2 ^ M.held * 2 ^ M.free := Nat.mul_le_mul_right _ hst
      rw [bit1 (hlet _ hix)]
      refine ⟨fun _ => ?_, fun z => nomatch z⟩
      repeat walk_at "d"
      refine Dl.sh ?_
      repeat walk_at "d"
      refine Ds.for_ (Tgt.name 12 (fun _ => scGraph.nd)) ?_
      refine Di.seq ?_
      repeat walk_at "d"
      refine for_mapG (fun r => natD (refT M.tabs M.full r)) (fun rs ρ => ∃ s12, ρ = [.sh (M.d G), .sh (natD (M.held + M.free)), .sh (.lst (M.tabs.map natD)), .sh (natD M.full), .sh (natD (refT M.tabs M.full M.lt)), .sh (.lst (M.steps.map fun r => natD (refT M.tabs M.full r))), .ow (.lst ((List.range st).map fun st => .lst ((M.row st).map pairD))), .sh (natD st), .ow (.lst ((List.range mv).map fun mv => pairD (mv, M.later (st * 2 ^ M.free + mv)))), .sh (natD mv), .sh (natD (st * 2 ^ M.free + mv)), .sh (natD (rs.foldl (fun l r => 2 * l + (refT M.tabs M.full r >>> (st * 2 ^ M.free + mv) &&& 1)) 0)), s12, s13]) M.steps ⟨_, rfl⟩ (fun pre' r' post' ρ e' h' => ?_) fun ρ h' => ?_
      · obtain ⟨s12, rfl⟩ := h'
        repeat walk_at "d"
        refine Dl.sh ?_
        repeat walk_at "d"
        rw [List.foldl_append]
        exact ⟨_, rfl⟩
      · obtain ⟨s12, rfl⟩ := h'
        repeat walk_at "d"
        refine Ds.append 8 rfl (by rw [List.length_map, List.length_range, sizeLine_eq]; omega) ?_
        repeat walk_at "d"
        refine ⟨by rw [sizeLine_eq]; exact Nat.le_of_ble_eq_true rfl, ?_⟩
        repeat walk_at "d"
        rw [List.range_succ, List.map_append]
        exact ⟨_, _, _, _, rfl⟩
    · obtain ⟨s9, s10, s11, s12, rfl⟩ := h
      refine Db.fz 8 rfl ?_
      repeat walk_at "d"
      refine Ds.append 6 rfl (by rw [List.length_map, List.length_range, sizeLine_eq]; omega) ?_
      repeat walk_at "d"
      rw [List.range_succ, List.map_append]
      rw [show ([D.lst (List.map (fun mv => pairD (mv, M.later (st * 2 ^ M.free + mv))) (List.range (2 ^ M.free)))] : List D) = List.map (fun st => D.lst (List.map pairD (M.row st))) [st] from by
        rw [List.map_singleton]
        unfold Mach.row
        rw [List.map_map]
        rfl]
      exact ⟨_, _, _, _, _, _, _, rfl⟩
  · obtain ⟨s7, s8, s9, s10, s11, s12, s13, rfl⟩ := h
    refine Db.fz 6 rfl ?_
    repeat walk_at "d"
    unfold graphD Mach.graph at hq
    rw [List.map_map] at hq
    exact hq
end K13
set_option Elab.async false
set_option linter.all false
set_option maxRecDepth 100000
set_option maxHeartbeats 4000000
set_option pp.maxSteps 300
namespace K13
open PySem PySem.Spec PyProof.Rows L2 DL
local macro_rules | `(tactic| walk_at "d") => `(tactic| (first
  | with_reducible refine addN ?_ | with_reducible refine subN (by omega) ?_ | with_reducible refine mulN (by first | exact .inl (by decide) | exact .inr (by decide) | omega) ?_ | with_reducible refine andN ?_ | with_reducible refine orN ?_ | with_reducible refine xorN ?_
  | with_reducible refine modN (by first | decide | omega) ?_ | with_reducible refine fdivN (by first | decide | omega) (by first | decide | omega) ?_ | with_reducible refine shrN ?_ | with_reducible refine shl1 (by omega) ?_
  | with_reducible refine ltN ?_ | with_reducible refine leN ?_ | with_reducible refine gtN ?_ | with_reducible refine geN ?_ | with_reducible refine eqN ?_ | with_reducible refine neN ?_ | with_reducible refine absN ?_ | with_reducible refine minN ?_ | with_reducible refine intB ?_
  | with_reducible refine ixL (by with_unfolding_all rfl) ?_ | with_reducible refine ixT (by with_unfolding_all rfl) ?_
  | with_reducible refine rngN (by first | omega | decide) ?_
  | with_reducible refine lenTm ?_ | with_reducible refine lenLm ?_ | with_reducible refine lenT ?_ | with_reducible refine lenL ?_ | with_reducible refine tupL ?_ | with_reducible refine tupT ?_ | with_reducible refine lstL ?_ | with_reducible refine lstT ?_ | with_reducible refine itmL ?_ | with_reducible refine itmT ?_ | with_reducible refine enmL ?_ | with_reducible refine enmT ?_ | with_reducible refine eqS ?_ | with_reducible refine neS ?_ | with_reducible refine revL ?_
  | ((with_reducible refine idDb ?_); first | refine Db.one ?_ | refine Db.cons ?_ | refine Db.nil ?_)
  | ((with_reducible refine idDs ?_); first | refine Ds.ret ?_ | refine Ds.if_ ?_ | refine Ds.set' 0 ?_ | refine Ds.set' 1 ?_ | refine Ds.set' 2 ?_ | refine Ds.set' 3 ?_ | refine Ds.set' 4 ?_ | refine Ds.set' 5 ?_ | refine Ds.set' 6 ?_ | refine Ds.set' 7 ?_ | refine Ds.set' 8 ?_ | refine Ds.set' 9 ?_ | refine Ds.set' 10 ?_ | refine Ds.set' 11 ?_ | refine Ds.set' 12 ?_ | refine Ds.set' 13 ?_)
  | ((with_reducible refine idDe ?_); first
    | refine De.name 0 rfl ?_ | refine De.name 1 rfl ?_ | refine De.name 2 rfl ?_ | refine De.name 3 rfl ?_ | refine De.name 4 rfl ?_ | refine De.name 5 rfl ?_ | refine De.name 6 rfl ?_ | refine De.name 7 rfl ?_ | refine De.name 8 rfl ?_ | refine De.name 9 rfl ?_ | refine De.name 10 rfl ?_ | refine De.name 11 rfl ?_ | refine De.name 12 rfl ?_ | refine De.name 13 rfl ?_
    | refine De.nat (n := 0) ?_ | refine De.nat (n := 1) ?_ | refine De.nat (n := 2) ?_ | refine De.nat ?_ | refine De.str ?_ | refine De.bl ?_ | refine De.non ?_
    | refine De.add ?_ | refine De.sub ?_ | refine De.mul ?_ | refine De.shl ?_ | refine De.shr ?_ | refine De.band ?_ | refine De.bor ?_ | refine De.bxor ?_ | refine De.mod ?_ | refine De.fdiv ?_ | refine De.pow ?_
    | refine De.eq ?_ | refine De.ne ?_ | refine De.lt ?_ | refine De.le ?_ | refine De.gt ?_ | refine De.ge ?_
    | refine De.chLL ?_ | refine De.chLl ?_
    | refine De.and1 ?_ | refine De.and ?_ | refine De.or ?_ | refine De.not ?_ | refine De.ite ?_
    | refine De.tup ?_ | refine De.lst ?_
    | refine De.rev ?_ | refine De.slLo ?_ | refine De.slHi ?_ | refine De.ix ?_ | refine De.fld ?_
    | refine De.isi (fun _ => Txt.isinstance) ?_ | refine De.len (fun _ => Txt.len) ?_ | refine De.toTup (fun _ => Txt.tuple) ?_ | refine De.toLst (fun _ => Txt.list) ?_ | refine De.toInt (fun _ => Txt.int) ?_ | refine De.allB (fun _ => Txt.all) ?_ | refine De.sum (fun _ => Txt.sum) ?_
    | refine De.min2 (fun _ => Txt.min) ?_ | refine De.abs (fun _ => Txt.abs) ?_ | refine De.sortI (fun _ => Txt.sorted) ?_
    | refine bcls (fun _ => Txt.int) boot_int ?_ | refine bcls (fun _ => Txt.bool) boot_bool ?_ | refine bcls (fun _ => Txt.tuple) boot_tuple ?_ | refine bcls (fun _ => Txt.str) boot_str ?_
    | refine ocls (fun _ => Txt.gS) ?_
    | refine gnat (fun _ => Txt.MOST_LEAVES) ?_ | refine gnat (fun _ => Txt.MOST_GATES) ?_ | refine gnat (fun _ => Txt.MOST_HELD) ?_ | refine gnat (fun _ => Txt.MOST_FREE) ?_ | refine gnat (fun _ => Txt.MOST_LAID) ?_ | refine gnat (fun _ => Txt.MOST_KIN) ?_)
  | ((with_reducible refine idDt ?_); first
    | refine Dt.eq ?_ | refine Dt.ne ?_ | refine Dt.lt ?_ | refine Dt.le ?_ | refine Dt.gt ?_ | refine Dt.ge ?_
    | refine Dt.not ?_ | refine Dt.or2 ?_ | refine Dt.and2 ?_ | refine Dt.or3 ?_ | refine Dt.truthB ?_ | refine Dt.val ?_)
  | ((with_reducible refine idDa ?_); first | refine Da.nil ?_ | refine Da.cons ?_)
  | ((with_reducible refine idDi ?_); first | refine Di.range1 (fun _ => Txt.range) ?_ | refine Di.range2 (fun _ => Txt.range) ?_ | refine Di.enum (fun _ => Txt.enumerate) ?_)
  | refine fun _ => ⟨Txt.cS.cl, Txt.nS _ (by decide), _, rfl, ?_⟩ | refine fun _ => ⟨Txt.cM.cl, Txt.nM _ (by decide), _, rfl, ?_⟩
  | refine fun _ => isi_int rfl ?_ | refine fun _ => isi_bool rfl ?_ | refine fun _ => isi_tuple rfl ?_ | refine fun _ => isi_str rfl ?_))
variable {G : Glo} [Txt G]
/-! ### the law's small defs -/
abbrev sLStand : Stmt := topS 39
theorem scLStand : FnScope ["number", "many", "flag"] ["number", "many"] (defScope sLStand) := ⟨rfl, rfl, rfl, by decide +kernel, rfl, by decide +kernel, by decide +kernel⟩
def standOf (n many : Nat) : List Bool := (List.range many).map fun f => n.testBit f
abbrev boolsD (l : List Bool) : D := .tup (l.map D.bl)
def spLStand : DSpec := fun ds Q => ∃ n m : Nat, ds = [natD n, natD m] ∧ m ≤ 40 ∧ Q (boolsD (standOf n m))
theorem ok_lstand {f : Addr} {fd : FuncData} {x qual : Str} (F : Fun G.K x qual sLStand f fd) : FnOk G.P G.w G.K G.mg G.base CX0 1 f fd ["number", "many"] (spD G.K spLStand) := by
  refine defD F scLStand (fun ds Q h => by obtain ⟨m, i, rfl, _⟩ := h; rfl) (fun ds Q h => ?_)
  obtain ⟨n, m, rfl, hm, hq⟩ := h
  repeat walk_at "d"
  refine De.lc [("flag", 2)] .no (Tgt.name 2 (fun _ => scLStand.nd)) (fun _ => blkOk_by (N := ["number", "many", "flag"]) (sc := (defScope sLStand)) (by decide +kernel)) (fun _ => scLStand.nd) ?_
  repeat walk_at "d"
  refine ⟨by rw [natsD_len, sizeLine_eq]; omega, lc_nats (fun l => D.bl (n.testBit l)) m ?_ fun l hl Q' hq' => ?_⟩
  · repeat walk_at "d"
    unfold standOf boolsD at hq
    rw [List.map_map] at hq
    exact hq
  · repeat walk_at "d"
    rw [bit_eq]
    exact hq'
abbrev sLSaying : Stmt := topS 40
theorem scLSaying : FnScope ["many", "rows", "gates", "row", "leaf", "k"] ["many", "rows"] (defScope sLSaying) := ⟨rfl, rfl, rfl, by decide +kernel, rfl, by decide +kernel, by decide +kernel⟩
def spLSaying (G : Glo) [Txt G] : DSpec := fun ds Q => ∃ (m : Nat) (rows : List (List Bool)), ds = [natD m, .lst (rows.map boolsD)] ∧ m ≤ 16 ∧ rows.length ≤ 100 ∧ (∀ r ∈ rows, r.length = m) ∧ ∀ gs r, Q (sayD (Txt.CS G) m gs r)
def rowGate (m : Nat) (row : List Bool) : Gate := .and ((List.range m).map fun l => 2 * l + (if (!(row.getD l false)) = true then 1 else 0))
theorem andD {α : Type} (f : α → Nat) (l : List α) : (Gate.and (l.map f)).d = .tup [.str "and", .tup (l.map fun x => natD (f x))] := by
  show D.tup [.str "and", .tup ((l.map f).map natD)] = _
  rw [List.map_map]
  rfl
theorem getD_bool {l : List Bool} {i : Nat} (h : i < l.length) : (l.map D.bl)[i]? = some (D.bl (l.getD i false)) := by
  rw [List.getElem?_map, List.getElem?_eq_getElem h, List.getD_eq_getElem?_getD, List.getElem?_eq_getElem h]
  rfl
theorem ok_lsaying {f : Addr} {fd : FuncData} {x qual : Str} (F : Fun G.K x qual sLSaying f fd) (mS : Maker G "Saying" (Txt.CS G) spSayInit 4) : FnOk G.P G.w G.K G.mg G.base CX0 6 f fd ["many", "rows"] (spD G.K (spLSaying G)) := by
  refine defD F scLSaying (fun ds Q h => by obtain ⟨m, i, rfl, _⟩ := h; rfl) (fun ds Q h => ?_)
  obtain ⟨m, rows, rfl, hm, hr, hl, hq⟩ := h
  show Db _ [.sh (natD m), .sh (.lst (rows.map boolsD)), .no, .no, .no, .no] _ _
  repeat walk_at "d"
  refine Ds.setLc 2 [("row", 3)] .no (Tgt.name 3 (fun _ => scLSaying.nd)) (fun _ => blkOk_by (N := ["many", "rows", "gates", "row", "leaf", "k"]) (sc := (defScope sLSaying)) (by decide +kernel)) (fun _ => scLSaying.nd) ?_
  refine Di.seq ?_
  repeat walk_at "d"
  refine ⟨by rw [List.length_map, sizeLine_eq]; omega, lc_mapG boolsD (fun r => (rowGate m r).d) rows ?_ fun row hrow Q' hq' => ?_⟩
  rotate_left
  · repeat walk_at "d"
    refine De.lc [("leaf", 4)] .no (Tgt.name 4 (fun _ => scLSaying.nd)) (fun _ => blkOk_by (N := ["many", "rows", "gates", "row", "leaf", "k"]) (sc := (L2.relS _ (defScope sLSaying))) (by decide +kernel)) (fun _ => scLSaying.nd) ?_
    repeat walk_at "d"
    refine ⟨by rw [natsD_len, sizeLine_eq]; omega, lc_nats (fun l => natD (2 * l + (if (!(row.getD l false)) = true then 1 else 0))) m ?_ fun l hl' Q2 hq2 => ?_⟩
    · repeat walk_at "d"
      refine ⟨by rw [sizeLine_eq]; exact Nat.le_of_ble_eq_true rfl, ?_⟩
      unfold rowGate at hq'
      rw [andD] at hq'
      exact hq'
    · repeat walk_at "d"
      refine ixT (getD_bool (by rw [hl row hrow]; exact hl')) ?_
      repeat walk_at "d"
      exact hq2
  repeat walk_at "d"
  refine Ds.append 2 rfl (by rw [List.length_map, sizeLine_eq]; omega) ?_
  repeat walk_at "d"
  refine De.lc [("k", 5)] .no (Tgt.name 5 (fun _ => scLSaying.nd)) (fun _ => blkOk_by (N := ["many", "rows", "gates", "row", "leaf", "k"]) (sc := (defScope sLSaying)) (by decide +kernel)) (fun _ => scLSaying.nd) ?_
  repeat walk_at "d"
  refine ⟨by rw [natsD_len, sizeLine_eq]; omega, lc_nats (fun k => natD (2 * (m + k) + 1)) rows.length ?_ fun l hl' Q2 hq2 => ?_⟩
  rotate_left
  · repeat walk_at "d"
    exact hq2
  repeat walk_at "d"
  refine ⟨by rw [sizeLine_eq]; exact Nat.le_of_ble_eq_true rfl, ?_⟩
  rw [show rows.map (fun r => (rowGate m r).d) ++ [D.tup [.str "and", .tup ((List.range rows.length).map fun k => natD (2 * (m + k) + 1))]] = (rows.map (rowGate m) ++ [Gate.and ((List.range rows.length).map fun k => 2 * (m + k) + 1)]).map Gate.d from by
    rw [List.map_append, List.map_map, List.map_singleton, andD]
    rfl]
  refine Db.fz 2 rfl ?_
  repeat walk_at "d"
  refine De.make mS ?_
  repeat walk_at "d"
  refine ⟨m, 2 * (m + rows.length) + 1, _, rfl, by omega, ?_, ?_, ?_, hq _ _⟩
  · rw [List.length_append, List.length_map, List.length_singleton]
    omega
  · intro i g e
    by_cases hi : i < rows.length
    · rw [List.getElem?_append_left (by rw [List.length_map]; exact hi), List.getElem?_map, List.getElem?_eq_getElem hi] at e
      cases e
      refine ⟨fun r hr' => ?_, ?_⟩
      · obtain ⟨l, hl', rfl⟩ := List.mem_map.mp hr'
        have := List.mem_range.mp hl'
        split <;> omega
      · show List.length _ ≤ _
        rw [List.length_map, List.length_range, sizeLine_eq]
        omega
    · rw [List.getElem?_append_right (by rw [List.length_map]; omega), List.length_map] at e
      have e2 := (List.getElem?_eq_some_iff.mp e).1
      rw [List.length_singleton] at e2
      have e3 : i = rows.length := by omega
      subst e3
      rw [Nat.sub_self] at e
      cases e
      refine ⟨fun r hr' => ?_, ?_⟩
      · obtain ⟨l, hl', rfl⟩ := List.mem_map.mp hr'
        have := List.mem_range.mp hl'
        omega
      · show List.length _ ≤ _
        rw [List.length_map, List.length_range, sizeLine_eq]
        omega
  · rw [List.length_append, List.length_map, List.length_singleton]
    omega
end K13
set_option Elab.async false
set_option linter.all false
set_option maxRecDepth 100000
set_option maxHeartbeats 4000000
set_option pp.maxSteps 300
namespace K13
open PySem PySem.Spec PyProof.Rows L2 DL
local macro_rules | `(tactic| walk_at "d") => `(tactic| (first
  | with_reducible refine addN ?_ | with_reducible refine subN (by omega) ?_ | with_reducible refine mulN (by first | exact .inl (by decide) | exact .inr (by decide) | omega) ?_ | with_reducible refine andN ?_ | with_reducible refine orN ?_ | with_reducible refine xorN ?_
  | with_reducible refine modN (by first | decide | omega) ?_ | with_reducible refine fdivN (by first | decide | omega) (by first | decide | omega) ?_ | with_reducible refine shrN ?_ | with_reducible refine shl1 (by omega) ?_
  | with_reducible refine ltN ?_ | with_reducible refine leN ?_ | with_reducible refine gtN ?_ | with_reducible refine geN ?_ | with_reducible refine eqN ?_ | with_reducible refine neN ?_ | with_reducible refine absN ?_ | with_reducible refine minN ?_ | with_reducible refine intB ?_
  | with_reducible refine ixL (by with_unfolding_all rfl) ?_ | with_reducible refine ixT (by with_unfolding_all rfl) ?_
  | with_reducible refine rngN (by first | omega | decide) ?_
  | with_reducible refine lenTm ?_ | with_reducible refine lenLm ?_ | with_reducible refine lenT ?_ | with_reducible refine lenL ?_ | with_reducible refine tupL ?_ | with_reducible refine tupT ?_ | with_reducible refine lstL ?_ | with_reducible refine lstT ?_ | with_reducible refine itmL ?_ | with_reducible refine itmT ?_ | with_reducible refine enmL ?_ | with_reducible refine enmT ?_ | with_reducible refine eqS ?_ | with_reducible refine neS ?_ | with_reducible refine revL ?_
  | ((with_reducible refine idDb ?_); first | refine Db.one ?_ | refine Db.cons ?_ | refine Db.nil ?_)
  | ((with_reducible refine idDs ?_); first | refine Ds.ret ?_ | refine Ds.if_ ?_ | refine Ds.set' 0 ?_ | refine Ds.set' 1 ?_ | refine Ds.set' 2 ?_ | refine Ds.set' 3 ?_ | refine Ds.set' 4 ?_ | refine Ds.set' 5 ?_ | refine Ds.set' 6 ?_ | refine Ds.set' 7 ?_ | refine Ds.set' 8 ?_ | refine Ds.set' 9 ?_ | refine Ds.set' 10 ?_ | refine Ds.set' 11 ?_ | refine Ds.set' 12 ?_ | refine Ds.set' 13 ?_)
  | ((with_reducible refine idDe ?_); first
    | refine De.name 0 rfl ?_ | refine De.name 1 rfl ?_ | refine De.name 2 rfl ?_ | refine De.name 3 rfl ?_ | refine De.name 4 rfl ?_ | refine De.name 5 rfl ?_ | refine De.name 6 rfl ?_ | refine De.name 7 rfl ?_ | refine De.name 8 rfl ?_ | refine De.name 9 rfl ?_ | refine De.name 10 rfl ?_ | refine De.name 11 rfl ?_ | refine De.name 12 rfl ?_ | refine De.name 13 rfl ?_
    | refine De.nat (n := 0) ?_ | refine De.nat (n := 1) ?_ | refine De.nat (n := 2) ?_ | refine De.nat ?_ | refine De.str ?_ | refine De.bl ?_ | refine De.non ?_
    | refine De.add ?_ | refine De.sub ?_ | refine De.mul ?_ | refine De.shl ?_ | refine De.shr ?_ | refine De.band ?_ | refine De.bor ?_ | refine De.bxor ?_ | refine De.mod ?_ | refine De.fdiv ?_ | refine De.pow ?_
    | refine De.eq ?_ | refine De.ne ?_ | refine De.lt ?_ | refine De.le ?_ | refine De.gt ?_ | refine De.ge ?_
    | refine De.chLL ?_ | refine De.chLl ?_
    | refine De.and1 ?_ | refine De.and ?_ | refine De.or ?_ | refine De.not ?_ | refine De.ite ?_
    | refine De.tup ?_ | refine De.lst ?_
    | refine De.rev ?_ | refine De.slLo ?_ | refine De.slHi ?_ | refine De.ix ?_ | refine De.fld ?_
    | refine De.isi (fun _ => Txt.isinstance) ?_ | refine De.len (fun _ => Txt.len) ?_ | refine De.toTup (fun _ => Txt.tuple) ?_ | refine De.toLst (fun _ => Txt.list) ?_ | refine De.toInt (fun _ => Txt.int) ?_ | refine De.allB (fun _ => Txt.all) ?_ | refine De.sum (fun _ => Txt.sum) ?_
    | refine De.min2 (fun _ => Txt.min) ?_ | refine De.abs (fun _ => Txt.abs) ?_ | refine De.sortI (fun _ => Txt.sorted) ?_
    | refine bcls (fun _ => Txt.int) boot_int ?_ | refine bcls (fun _ => Txt.bool) boot_bool ?_ | refine bcls (fun _ => Txt.tuple) boot_tuple ?_ | refine bcls (fun _ => Txt.str) boot_str ?_
    | refine ocls (fun _ => Txt.gS) ?_
    | refine gnat (fun _ => Txt.MOST_LEAVES) ?_ | refine gnat (fun _ => Txt.MOST_GATES) ?_ | refine gnat (fun _ => Txt.MOST_HELD) ?_ | refine gnat (fun _ => Txt.MOST_FREE) ?_ | refine gnat (fun _ => Txt.MOST_LAID) ?_ | refine gnat (fun _ => Txt.MOST_KIN) ?_)
  | ((with_reducible refine idDt ?_); first
    | refine Dt.eq ?_ | refine Dt.ne ?_ | refine Dt.lt ?_ | refine Dt.le ?_ | refine Dt.gt ?_ | refine Dt.ge ?_
    | refine Dt.not ?_ | refine Dt.or2 ?_ | refine Dt.and2 ?_ | refine Dt.or3 ?_ | refine Dt.truthB ?_ | refine Dt.val ?_)
  | ((with_reducible refine idDa ?_); first | refine Da.nil ?_ | refine Da.cons ?_)
  | ((with_reducible refine idDi ?_); first | refine Di.range1 (fun _ => Txt.range) ?_ | refine Di.range2 (fun _ => Txt.range) ?_ | refine Di.enum (fun _ => Txt.enumerate) ?_)
  | refine fun _ => ⟨Txt.cS.cl, Txt.nS _ (by decide), _, rfl, ?_⟩ | refine fun _ => ⟨Txt.cM.cl, Txt.nM _ (by decide), _, rfl, ?_⟩
  | refine fun _ => isi_int rfl ?_ | refine fun _ => isi_bool rfl ?_ | refine fun _ => isi_tuple rfl ?_ | refine fun _ => isi_str rfl ?_))
variable {G : Glo} [Txt G]
/-! ### sums of refs -/
abbrev sSumOf : Stmt := topS 41
abbrev NSumOf : List Str := ["gates", "leaves", "refs", "found", "ref"]
theorem scSumOf : FnScope NSumOf ["gates", "leaves", "refs"] (defScope sSumOf) := ⟨rfl, rfl, rfl, by decide +kernel, rfl, by decide +kernel, by decide +kernel⟩
def sumStep (leaves : Nat) (s : List Gate × Nat) (r : Nat) : List Gate × Nat := if s.2 = 2 * leaves + 1 then (s.1, r) else (s.1 ++ [.xor s.2 r], 2 * (leaves + s.1.length))
def sumOf (leaves : Nat) (gs : List Gate) (refs : List Nat) : List Gate × Nat := refs.foldl (sumStep leaves) (gs, 2 * leaves + 1)
theorem sumOf_snoc (leaves : Nat) (gs : List Gate) (refs : List Nat) (r : Nat) : sumOf leaves gs (refs ++ [r]) = sumStep leaves (sumOf leaves gs refs) r := by
  unfold sumOf
  rw [List.foldl_append]
  rfl
theorem sumFold_len (leaves : Nat) : ∀ (refs : List Nat) (s : List Gate × Nat), (refs.foldl (sumStep leaves) s).1.length ≤ s.1.length + refs.length
  | [], s => Nat.le_refl _
  | r :: refs, s => by
    rw [List.foldl_cons, List.length_cons]
    have h := sumFold_len leaves refs (sumStep leaves s r)
    have h2 : (sumStep leaves s r).1.length ≤ s.1.length + 1 := by
      unfold sumStep
      split
      · exact Nat.le_succ _
      · rw [List.length_append, List.length_singleton]
        exact Nat.le_refl _
    omega
theorem sumOf_len (leaves : Nat) (gs : List Gate) (refs : List Nat) : (sumOf leaves gs refs).1.length ≤ gs.length + refs.length := sumFold_len leaves refs (gs, _)
abbrev gatesD (gs : List Gate) : D := .lst (gs.map Gate.d)
def spSumOf : DSpec := fun ds Q => ∃ (gs : List Gate) (leaves : Nat) (refs : List Nat), ds = [gatesD gs, natD leaves, .lst (refs.map natD)] ∧ gs.length + refs.length ≤ 4000 ∧ Q (.tup [gatesD (sumOf leaves gs refs).1, natD (sumOf leaves gs refs).2])
theorem ok_sum_of {f : Addr} {fd : FuncData} {x qual : Str} (F : Fun G.K x qual sSumOf f fd) : FnOk G.P G.w G.K G.mg G.base CX0 1 f fd ["gates", "leaves", "refs"] (spD G.K spSumOf) := by
  refine defD F scSumOf (fun ds Q h => by obtain ⟨g, l, r, rfl, _⟩ := h; rfl) (fun ds Q h => ?_)
  obtain ⟨gs, leaves, refs, rfl, hl, hq⟩ := h
  repeat walk_at "d"
  refine Dl.sh ?_
  repeat walk_at "d"
  refine Ds.for_ (Tgt.name 4 (fun _ => scSumOf.nd)) ?_
  refine Di.seq ?_
  repeat walk_at "d"
  refine for_mapG natD (fun rs ρ => ∃ s4, ρ = [.sh (gatesD (sumOf leaves gs rs).1), .sh (natD leaves), .sh (.lst (refs.map natD)), .sh (natD (sumOf leaves gs rs).2), s4]) refs ⟨_, rfl⟩ (fun pre r post ρ e h => ?_) fun ρ h => ?_
  · obtain ⟨s4, rfl⟩ := h
    have hl2 := sumOf_len leaves gs pre
    have hl3 : pre.length ≤ refs.length := by rw [← e, List.length_append]; omega
    rw [sumOf_snoc]
    generalize sumOf leaves gs pre = s at *
    obtain ⟨g, fo⟩ := s
    dsimp only at hl2 ⊢
    unfold sumStep
    repeat walk_at "d"
    refine ⟨fun c => ?_, fun c => ?_⟩
    · repeat walk_at "d"
      refine Dl.sh ?_
      repeat walk_at "d"
      rw [if_pos (of_decide_eq_true c)]
      exact ⟨_, rfl⟩
    · repeat walk_at "d"
      refine Dl.sh ?_
      repeat walk_at "d"
      refine ⟨by rw [sizeLine_eq]; exact Nat.le_of_ble_eq_true rfl, ?_⟩
      repeat walk_at "d"
      refine ⟨by rw [sizeLine_eq]; exact Nat.le_of_ble_eq_true rfl, ?_⟩
      refine addL (by rw [List.length_map, List.length_singleton, sizeLine_eq]; omega) ?_
      rw [show g.map Gate.d ++ [D.tup [.str "xor", .int fo, .int r]] = (g ++ [Gate.xor fo r]).map Gate.d from by rw [List.map_append]; rfl]
      repeat walk_at "d"
      refine Dl.sh ?_
      repeat walk_at "d"
      rw [if_neg (of_decide_eq_false c)]
      rw [List.length_append, List.length_singleton]
      repeat walk_at "d"
      rw [show leaves + (g.length + 1) - 1 = leaves + g.length by omega]
      exact ⟨_, rfl⟩
  · obtain ⟨s4, rfl⟩ := h
    repeat walk_at "d"
    exact ⟨by rw [sizeLine_eq]; exact Nat.le_of_ble_eq_true rfl, hq⟩
/-! ### parity, bits -/
abbrev sOdd : Stmt := topS 44
abbrev NOdd : List Str := ["number", "found"]
theorem scOdd : FnScope NOdd ["number"] (defScope sOdd) := ⟨rfl, rfl, rfl, by decide +kernel, rfl, by decide +kernel, by decide +kernel⟩
/-- the parity of n's ones -/
def oddN (n : Nat) : Nat := if h : n = 0 then 0 else (n % 2) ^^^ oddN (n / 2)
decreasing_by exact Nat.div_lt_self (by omega) (by decide)
def spOdd : DSpec := fun ds Q => ∃ n : Nat, ds = [natD n] ∧ Q (natD (oddN n))
theorem ok_odd {f : Addr} {fd : FuncData} {x qual : Str} (F : Fun G.K x qual sOdd f fd) : FnOk G.P G.w G.K G.mg G.base CX0 1 f fd ["number"] (spD G.K spOdd) := by
  refine defD F scOdd (fun ds Q h => by obtain ⟨g, rfl, _⟩ := h; rfl) (fun ds Q h => ?_)
  obtain ⟨n, rfl, hq⟩ := h
  repeat walk_at "d"
  refine Dl.sh ?_
  repeat walk_at "d"
  refine Ds.while_ (fun m ρ => ∃ f, ρ = [.sh (natD m), .sh (natD f)] ∧ f ^^^ oddN m = oddN n) ⟨n, 0, rfl, Nat.zero_xor _⟩ fun m ρ h => ?_
  obtain ⟨f, rfl, hf⟩ := h
  repeat walk_at "d"
  refine ⟨fun c => ?_, fun c => ?_⟩
  · have c := of_decide_eq_true c
    repeat walk_at "d"
    refine Dl.sh ?_
    repeat walk_at "d"
    refine Dl.sh ?_
    repeat walk_at "d"
    refine ⟨m >>> 1, by rw [Nat.shiftRight_eq_div_pow]; omega, _, rfl, ?_⟩
    rw [← hf]
    conv => rhs; rw [oddN]
    rw [dif_neg (by omega), Nat.and_one_is_mod, Nat.shiftRight_eq_div_pow, Nat.xor_assoc]
  · have c := of_decide_eq_false c
    repeat walk_at "d"
    have e : m = 0 := by omega
    rw [e, oddN, dif_pos rfl, Nat.xor_zero] at hf
    rw [hf]
    exact hq
abbrev sBits : Stmt := topS 45
abbrev NBits : List Str := ["number", "at"]
theorem scBits : FnScope NBits ["number"] (defScope sBits) := ⟨rfl, rfl, rfl, by decide +kernel, rfl, by decide +kernel, by decide +kernel⟩
def bitsN (n : Nat) : List Nat := (List.range 20).filter fun i => n.testBit i
def spBits : DSpec := fun ds Q => ∃ n : Nat, ds = [natD n] ∧ Q (.tup ((bitsN n).map natD))
theorem ok_bits {f : Addr} {fd : FuncData} {x qual : Str} (F : Fun G.K x qual sBits f fd) : FnOk G.P G.w G.K G.mg G.base CX0 1 f fd ["number"] (spD G.K spBits) := by
  refine defD F scBits (fun ds Q h => by obtain ⟨g, rfl, _⟩ := h; rfl) (fun ds Q h => ?_)
  obtain ⟨n, rfl, hq⟩ := h
  repeat walk_at "d"
  refine De.lc [("at", 1)] (.one _) (Tgt.name 1 (fun _ => scBits.nd)) (fun _ => blkOk_by (N := ["number", "at"]) (sc := (defScope sBits)) (by decide +kernel)) (fun _ => scBits.nd) ?_
  repeat walk_at "d"
  refine ⟨by rw [natsD_len, sizeLine_eq]; exact Nat.le_of_ble_eq_true rfl, lc_ifG natD natD (fun i => n.testBit i) (List.range 20) ?_ (fun i hi Q' hq' => ?_) fun i hi _ Q' hq' => ?_⟩
  · repeat walk_at "d"
    exact hq
  · repeat walk_at "d"
    rw [bit_eq]
    exact hq'
  · repeat walk_at "d"
    exact hq'
abbrev sIsIn : Stmt := topS 50
abbrev NIsIn : List Str := ["base", "number", "one"]
theorem scIsIn : FnScope NIsIn ["base", "number"] (defScope sIsIn) := ⟨rfl, rfl, rfl, by decide +kernel, rfl, by decide +kernel, by decide +kernel⟩
/-- a number made least by the base's numbers -/
def redN (base : List Nat) (n : Nat) : Nat := base.foldl (fun n o => min n (n ^^^ o)) n
def spIsIn : DSpec := fun ds Q => ∃ (b : List Nat) (n : Nat), ds = [.lst (b.map natD), natD n] ∧ Q (.bl (decide (redN b n = 0)))
theorem ok_is_in {f : Addr} {fd : FuncData} {x qual : Str} (F : Fun G.K x qual sIsIn f fd) : FnOk G.P G.w G.K G.mg G.base CX0 1 f fd ["base", "number"] (spD G.K spIsIn) := by
  refine defD F scIsIn (fun ds Q h => by obtain ⟨g, n, rfl, _⟩ := h; rfl) (fun ds Q h => ?_)
  obtain ⟨b, n, rfl, hq⟩ := h
  repeat walk_at "d"
  refine Ds.for_ (Tgt.name 2 (fun _ => scIsIn.nd)) ?_
  refine Di.seq ?_
  repeat walk_at "d"
  refine for_mapG natD (fun rs ρ => ∃ s, ρ = [.sh (.lst (b.map natD)), .sh (natD (redN rs n)), s]) b ⟨_, rfl⟩ (fun pre r post ρ e h => ?_) fun ρ h => ?_
  · obtain ⟨s, rfl⟩ := h
    repeat walk_at "d"
    refine Dl.sh ?_
    repeat walk_at "d"
    unfold redN
    rw [List.foldl_append]
    exact ⟨_, rfl⟩
  · obtain ⟨s, rfl⟩ := h
    repeat walk_at "d"
    exact hq
end K13
set_option Elab.async false
set_option linter.all false
set_option maxRecDepth 100000
set_option maxHeartbeats 4000000
set_option pp.maxSteps 300
namespace K13
open PySem PySem.Spec PyProof.Rows L2 DL
local macro_rules | `(tactic| walk_at "d") => `(tactic| (first
  | with_reducible refine addN ?_ | with_reducible refine subN (by omega) ?_ | with_reducible refine mulN (by first | exact .inl (by decide) | exact .inr (by decide) | omega) ?_ | with_reducible refine andN ?_ | with_reducible refine orN ?_ | with_reducible refine xorN ?_
  | with_reducible refine modN (by first | decide | omega) ?_ | with_reducible refine fdivN (by first | decide | omega) (by first | decide | omega) ?_ | with_reducible refine shrN ?_ | with_reducible refine shl1 (by omega) ?_
  | with_reducible refine ltN ?_ | with_reducible refine leN ?_ | with_reducible refine gtN ?_ | with_reducible refine geN ?_ | with_reducible refine eqN ?_ | with_reducible refine neN ?_ | with_reducible refine absN ?_ | with_reducible refine minN ?_ | with_reducible refine intB ?_
  | with_reducible refine ixL (by with_unfolding_all rfl) ?_ | with_reducible refine ixT (by with_unfolding_all rfl) ?_
  | with_reducible refine rngN (by first | omega | decide) ?_
  | with_reducible refine lenTm ?_ | with_reducible refine lenLm ?_ | with_reducible refine lenT ?_ | with_reducible refine lenL ?_ | with_reducible refine tupL ?_ | with_reducible refine tupT ?_ | with_reducible refine lstL ?_ | with_reducible refine lstT ?_ | with_reducible refine itmL ?_ | with_reducible refine itmT ?_ | with_reducible refine enmL ?_ | with_reducible refine enmT ?_ | with_reducible refine eqS ?_ | with_reducible refine neS ?_ | with_reducible refine revL ?_
  | ((with_reducible refine idDb ?_); first | refine Db.one ?_ | refine Db.cons ?_ | refine Db.nil ?_)
  | ((with_reducible refine idDs ?_); first | refine Ds.ret ?_ | refine Ds.if_ ?_ | refine Ds.set' 0 ?_ | refine Ds.set' 1 ?_ | refine Ds.set' 2 ?_ | refine Ds.set' 3 ?_ | refine Ds.set' 4 ?_ | refine Ds.set' 5 ?_ | refine Ds.set' 6 ?_ | refine Ds.set' 7 ?_ | refine Ds.set' 8 ?_ | refine Ds.set' 9 ?_ | refine Ds.set' 10 ?_ | refine Ds.set' 11 ?_ | refine Ds.set' 12 ?_ | refine Ds.set' 13 ?_)
  | ((with_reducible refine idDe ?_); first
    | refine De.name 0 rfl ?_ | refine De.name 1 rfl ?_ | refine De.name 2 rfl ?_ | refine De.name 3 rfl ?_ | refine De.name 4 rfl ?_ | refine De.name 5 rfl ?_ | refine De.name 6 rfl ?_ | refine De.name 7 rfl ?_ | refine De.name 8 rfl ?_ | refine De.name 9 rfl ?_ | refine De.name 10 rfl ?_ | refine De.name 11 rfl ?_ | refine De.name 12 rfl ?_ | refine De.name 13 rfl ?_
    | refine De.nat (n := 0) ?_ | refine De.nat (n := 1) ?_ | refine De.nat (n := 2) ?_ | refine De.nat ?_ | refine De.str ?_ | refine De.bl ?_ | refine De.non ?_
    | refine De.add ?_ | refine De.sub ?_ | refine De.mul ?_ | refine De.shl ?_ | refine De.shr ?_ | refine De.band ?_ | refine De.bor ?_ | refine De.bxor ?_ | refine De.mod ?_ | refine De.fdiv ?_ | refine De.pow ?_
    | refine De.eq ?_ | refine De.ne ?_ | refine De.lt ?_ | refine De.le ?_ | refine De.gt ?_ | refine De.ge ?_
    | refine De.chLL ?_ | refine De.chLl ?_
    | refine De.and1 ?_ | refine De.and ?_ | refine De.or ?_ | refine De.not ?_ | refine De.ite ?_
    | refine De.tup ?_ | refine De.lst ?_
    | refine De.rev ?_ | refine De.slLo ?_ | refine De.slHi ?_ | refine De.ix ?_ | refine De.fld ?_
    | refine De.isi (fun _ => Txt.isinstance) ?_ | refine De.len (fun _ => Txt.len) ?_ | refine De.toTup (fun _ => Txt.tuple) ?_ | refine De.toLst (fun _ => Txt.list) ?_ | refine De.toInt (fun _ => Txt.int) ?_ | refine De.allB (fun _ => Txt.all) ?_ | refine De.sum (fun _ => Txt.sum) ?_
    | refine De.min2 (fun _ => Txt.min) ?_ | refine De.abs (fun _ => Txt.abs) ?_ | refine De.sortI (fun _ => Txt.sorted) ?_
    | refine bcls (fun _ => Txt.int) boot_int ?_ | refine bcls (fun _ => Txt.bool) boot_bool ?_ | refine bcls (fun _ => Txt.tuple) boot_tuple ?_ | refine bcls (fun _ => Txt.str) boot_str ?_
    | refine ocls (fun _ => Txt.gS) ?_
    | refine gnat (fun _ => Txt.MOST_LEAVES) ?_ | refine gnat (fun _ => Txt.MOST_GATES) ?_ | refine gnat (fun _ => Txt.MOST_HELD) ?_ | refine gnat (fun _ => Txt.MOST_FREE) ?_ | refine gnat (fun _ => Txt.MOST_LAID) ?_ | refine gnat (fun _ => Txt.MOST_KIN) ?_)
  | ((with_reducible refine idDt ?_); first
    | refine Dt.eq ?_ | refine Dt.ne ?_ | refine Dt.lt ?_ | refine Dt.le ?_ | refine Dt.gt ?_ | refine Dt.ge ?_
    | refine Dt.not ?_ | refine Dt.or2 ?_ | refine Dt.and2 ?_ | refine Dt.or3 ?_ | refine Dt.truthB ?_ | refine Dt.val ?_)
  | ((with_reducible refine idDa ?_); first | refine Da.nil ?_ | refine Da.cons ?_)
  | ((with_reducible refine idDi ?_); first | refine Di.range1 (fun _ => Txt.range) ?_ | refine Di.range2 (fun _ => Txt.range) ?_ | refine Di.enum (fun _ => Txt.enumerate) ?_)
  | refine fun _ => ⟨Txt.cS.cl, Txt.nS _ (by decide), _, rfl, ?_⟩ | refine fun _ => ⟨Txt.cM.cl, Txt.nM _ (by decide), _, rfl, ?_⟩
  | refine fun _ => isi_int rfl ?_ | refine fun _ => isi_bool rfl ?_ | refine fun _ => isi_tuple rfl ?_ | refine fun _ => isi_str rfl ?_))
variable {G : Glo} [Txt G]
/-! ### sums, bases -/
def sortN (l : List Nat) : List Nat := l.mergeSort (fun a b => decide (a ≤ b))
theorem sortN_perm (l : List Nat) : (sortN l).Perm l := List.mergeSort_perm _ _
theorem sortN_pw (l : List Nat) : (sortN l).Pairwise (· ≤ ·) := by
  have h := List.pairwise_mergeSort (le := fun a b : Nat => decide (a ≤ b)) (fun a b c h1 h2 => by simp only [decide_eq_true_eq] at *; omega) (fun a b => by simp only [Bool.or_eq_true, decide_eq_true_eq]; omega) l
  exact h.imp fun h => of_decide_eq_true h
theorem sortedI {l : List Nat} {ns' : List Int} (h1 : ns'.Perm (l.map fun (n : Nat) => (n : Int))) (h2 : ns'.Pairwise (· ≤ ·)) : ns' = (sortN l).map fun (n : Nat) => (n : Int) := by
  refine List.Perm.eq_of_pairwise (le := (· ≤ ·)) (fun a b _ _ h1 h2 => Int.le_antisymm h1 h2) h2 ?_ (h1.trans ((sortN_perm l).map _).symm)
  exact List.pairwise_map.mpr ((sortN_pw l).imp fun h => Int.ofNat_le.mpr h)
theorem dSortN {l : List Nat} {Q : DQ} (h : Q (.lst ((sortN l).map natD))) : dSortI [.lst (l.map natD)] Q := by
  refine ⟨l.map fun (n : Nat) => (n : Int), by rw [List.map_map]; rfl, fun ns' h1 h2 => ?_⟩
  rw [sortedI h1 h2, List.map_map]
  exact h
theorem sum_cast (l : List Nat) : (l.map fun (n : Nat) => (n : Int)).sum = ((l.sum : Nat) : Int) := by
  induction l with
  | nil => rfl
  | cons a l ih =>
    rw [List.map_cons, List.sum_cons, List.sum_cons, ih]
    omega
theorem sumN {l : List Nat} {Q : DQ} (h : Q (natD l.sum)) : dSum [.lst (l.map natD)] Q := by
  refine ⟨l.map fun (n : Nat) => (n : Int), by rw [List.map_map]; rfl, ?_⟩
  rw [sum_cast]
  exact h
abbrev natsL (l : List Nat) : D := .lst (l.map natD)
abbrev natsT (l : List Nat) : D := .tup (l.map natD)
/-! _law_base -/
def baseStep (base : List Nat) (n : Nat) : List Nat := if 0 < redN base n then (sortN (base.map (fun o => min o (o ^^^ redN base n)) ++ [redN base n])).reverse else base
def baseOf (ns : List Nat) : List Nat := ns.foldl baseStep []
theorem baseStep_len (b : List Nat) (n : Nat) : (baseStep b n).length ≤ b.length + 1 := by
  unfold baseStep
  split
  · rw [List.length_reverse, (sortN_perm _).length_eq, List.length_append, List.length_map, List.length_singleton]
    exact Nat.le_refl _
  · exact Nat.le_succ _
theorem baseOf_snoc (ns : List Nat) (n : Nat) : baseOf (ns ++ [n]) = baseStep (baseOf ns) n := by
  unfold baseOf
  rw [List.foldl_append]
  rfl
theorem baseFold_len : ∀ (ns b : List Nat), (ns.foldl baseStep b).length ≤ b.length + ns.length
  | [], b => Nat.le_refl _
  | n :: ns, b => by
    rw [List.foldl_cons, List.length_cons]
    have h := baseFold_len ns (baseStep b n)
    have h2 := baseStep_len b n
    omega
theorem baseOf_len (ns : List Nat) : (baseOf ns).length ≤ ns.length := by
  have h := baseFold_len ns []
  rw [List.length_nil, Nat.zero_add] at h
  exact h
abbrev sBase : Stmt := topS 43
abbrev NBase : List Str := ["numbers", "base", "number", "one"]
theorem scBase : FnScope NBase ["numbers"] (defScope sBase) := ⟨rfl, rfl, rfl, by decide +kernel, rfl, by decide +kernel, by decide +kernel⟩
def spBase : DSpec := fun ds Q => ∃ ns : List Nat, ds = [natsL ns] ∧ ns.length ≤ 1000 ∧ Q (natsL (baseOf ns))
theorem ok_base {f : Addr} {fd : FuncData} {x qual : Str} (F : Fun G.K x qual sBase f fd) : FnOk G.P G.w G.K G.mg G.base CX0 1 f fd ["numbers"] (spD G.K spBase) := by
  refine defD F scBase (fun ds Q h => by obtain ⟨g, rfl, _⟩ := h; rfl) (fun ds Q h => ?_)
  obtain ⟨ns, rfl, hl, hq⟩ := h
  repeat walk_at "d"
  refine Dl.sh ?_
  repeat walk_at "d"
  refine ⟨Nat.zero_le _, ?_⟩
  repeat walk_at "d"
  refine Ds.for_ (Tgt.name 2 (fun _ => scBase.nd)) ?_
  refine Di.seq ?_
  repeat walk_at "d"
  refine for_mapG natD (fun rs ρ => ∃ s2 s3, ρ = [.sh (natsL ns), .sh (natsL (baseOf rs)), s2, s3]) ns ⟨_, _, rfl⟩ (fun pre n post ρ e h => ?_) fun ρ h => ?_
  · obtain ⟨s2, s3, rfl⟩ := h
    have hl2 := baseOf_len pre
    have hl3 : pre.length ≤ ns.length := by rw [← e, List.length_append]; omega
    rw [baseOf_snoc]
    generalize baseOf pre = b at *
    repeat walk_at "d"
    refine Ds.for_ (Tgt.name 3 (fun _ => scBase.nd)) ?_
    refine Di.seq ?_
    repeat walk_at "d"
    refine for_mapG natD (fun rs ρ => ∃ s3, ρ = [.sh (natsL ns), .sh (natsL b), .sh (natD (redN rs n)), s3]) b ⟨_, rfl⟩ (fun pre' o post' ρ e' h' => ?_) fun ρ h' => ?_
    · obtain ⟨s3, rfl⟩ := h'
      repeat walk_at "d"
      refine Dl.sh ?_
      repeat walk_at "d"
      unfold redN
      rw [List.foldl_append]
      exact ⟨_, rfl⟩
    · obtain ⟨s3, rfl⟩ := h'
      unfold baseStep
      generalize redN b n = r at *
      repeat walk_at "d"
      refine ⟨fun c => ?_, fun c => ?_⟩
      · rw [if_pos (of_decide_eq_true c)]
        repeat walk_at "d"
        refine Dl.sh ?_
        repeat walk_at "d"
        refine De.lc [("one", 3)] .no (Tgt.name 3 (fun _ => scBase.nd)) (fun _ => blkOk_by (N := ["numbers", "base", "number", "one"]) (sc := (defScope sBase)) (by decide +kernel)) (fun _ => scBase.nd) ?_
        refine Di.seq ?_
        repeat walk_at "d"
        refine ⟨by rw [List.length_map, sizeLine_eq]; omega, lc_mapG natD (fun o => natD (min o (o ^^^ r))) b ?_ fun o ho Q' hq' => ?_⟩
        rotate_left
        · repeat walk_at "d"
          exact hq'
        repeat walk_at "d"
        refine ⟨by rw [sizeLine_eq]; exact Nat.le_of_ble_eq_true rfl, ?_⟩
        refine addL (by rw [List.length_map, List.length_singleton, sizeLine_eq]; omega) ?_
        repeat walk_at "d"
        rw [show b.map (fun o => natD (min o (o ^^^ r))) ++ [D.int (r : Int)] = (b.map (fun o => min o (o ^^^ r)) ++ [r]).map natD from by rw [List.map_append, List.map_map]; rfl]
        refine dSortN ?_
        repeat walk_at "d"
        rw [← List.map_reverse]
        exact ⟨_, _, rfl⟩
      · rw [if_neg (of_decide_eq_false c)]
        repeat walk_at "d"
        exact ⟨_, _, rfl⟩
  · obtain ⟨s2, s3, rfl⟩ := h
    repeat walk_at "d"
    exact hq
/-! _law_turned -/
abbrev sTurned : Stmt := topS 46
abbrev NTurned : List Str := ["rows", "many", "at", "place", "row"]
theorem scTurned : FnScope NTurned ["rows", "many"] (defScope sTurned) := ⟨rfl, rfl, rfl, by decide +kernel, rfl, by decide +kernel, by decide +kernel⟩
def colOf (rows : List Nat) (a : Nat) : Nat := ((List.range rows.length).map fun p => (rows.getD p 0 >>> a &&& 1) * 2 ^ p).sum
def turned (rows : List Nat) (many : Nat) : List Nat := (List.range many).map (colOf rows)
def spTurned : DSpec := fun ds Q => ∃ (rows : List Nat) (many : Nat), ds = [natsL rows, natD many] ∧ rows.length ≤ 1000 ∧ many ≤ 1000 ∧ Q (natsL (turned rows many))
theorem getD_natL {l : List Nat} {i : Nat} {d : D} (h : (l.map natD)[i]? = some d) : d = natD (l.getD i 0) := by
  rw [List.getElem?_map] at h
  rw [List.getD_eq_getElem?_getD]
  cases q : l[i]? with
  | none => rw [q] at h; cases h
  | some u => rw [q] at h; cases h; rfl
theorem bit2 (n i : Nat) : (n >>> i &&& 1) < 2 ^ 1 := by
  rw [Nat.and_one_is_mod]
  exact Nat.mod_lt _ (by decide)
theorem ok_turned {f : Addr} {fd : FuncData} {x qual : Str} (F : Fun G.K x qual sTurned f fd) : FnOk G.P G.w G.K G.mg G.base CX0 1 f fd ["rows", "many"] (spD G.K spTurned) := by
  refine defD F scTurned (fun ds Q h => by obtain ⟨g, m, rfl, _⟩ := h; rfl) (fun ds Q h => ?_)
  obtain ⟨rows, many, rfl, hl, hm, hq⟩ := h
  repeat walk_at "d"
  refine De.lc [("at", 2)] .no (Tgt.name 2 (fun _ => scTurned.nd)) (fun _ => blkOk_by (N := ["rows", "many", "at", "place", "row"]) (sc := (defScope sTurned)) (by decide +kernel)) (fun _ => scTurned.nd) ?_
  repeat walk_at "d"
  refine ⟨by rw [natsD_len, sizeLine_eq]; omega, lc_nats (fun a => natD (colOf rows a)) many ?_ fun a ha Q' hq' => ?_⟩
  rotate_left
  · repeat walk_at "d"
    refine De.lc [("place", 3), ("row", 4)] .no (Tgt.two 3 4 (fun _ => scTurned.nd)) (fun _ => blkOk_by (N := ["rows", "many", "at", "place", "row"]) (sc := (L2.relS _ (defScope sTurned))) (by decide +kernel)) (fun _ => scTurned.nd) ?_
    repeat walk_at "d"
    refine ⟨by rw [enumD_len, List.length_map, sizeLine_eq]; omega, lc_enum (fun p => natD ((rows.getD p 0 >>> a &&& 1) * 2 ^ p)) _ ?_ fun p d hd Q2 hq2 => ?_⟩
    · repeat walk_at "d"
      rw [List.length_map, show (List.range rows.length).map (fun p => natD ((rows.getD p 0 >>> a &&& 1) * 2 ^ p)) = ((List.range rows.length).map fun p => (rows.getD p 0 >>> a &&& 1) * 2 ^ p).map natD from by rw [List.map_map]; rfl]
      refine sumN ?_
      exact hq'
    · have hp := (List.getElem?_eq_some_iff.mp hd).1
      rw [List.length_map] at hp
      rw [getD_natL hd]
      repeat walk_at "d"
      refine shlN 1 (bit2 _ _) (by omega) ?_
      exact hq2
  repeat walk_at "d"
  unfold turned natsL at hq
  rw [List.map_map] at hq
  exact hq
end K13
set_option Elab.async false
set_option linter.all false
set_option maxRecDepth 100000
set_option maxHeartbeats 4000000
set_option pp.maxSteps 300
namespace K13
open PySem PySem.Spec PyProof.Rows L2 DL
local macro_rules | `(tactic| walk_at "d") => `(tactic| (first
  | with_reducible refine addN ?_ | with_reducible refine subN (by omega) ?_ | with_reducible refine mulN (by first | exact .inl (by decide) | exact .inr (by decide) | omega) ?_ | with_reducible refine andN ?_ | with_reducible refine orN ?_ | with_reducible refine xorN ?_
  | with_reducible refine modN (by first | decide | omega) ?_ | with_reducible refine fdivN (by first | decide | omega) (by first | decide | omega) ?_ | with_reducible refine shrN ?_ | with_reducible refine shl1 (by omega) ?_
  | with_reducible refine ltN ?_ | with_reducible refine leN ?_ | with_reducible refine gtN ?_ | with_reducible refine geN ?_ | with_reducible refine eqN ?_ | with_reducible refine neN ?_ | with_reducible refine absN ?_ | with_reducible refine minN ?_ | with_reducible refine intB ?_
  | with_reducible refine ixL (by with_unfolding_all rfl) ?_ | with_reducible refine ixT (by with_unfolding_all rfl) ?_
  | with_reducible refine rngN (by first | omega | decide) ?_
  | with_reducible refine lenTm ?_ | with_reducible refine lenLm ?_ | with_reducible refine lenT ?_ | with_reducible refine lenL ?_ | with_reducible refine tupL ?_ | with_reducible refine tupT ?_ | with_reducible refine lstL ?_ | with_reducible refine lstT ?_ | with_reducible refine itmL ?_ | with_reducible refine itmT ?_ | with_reducible refine enmL ?_ | with_reducible refine enmT ?_ | with_reducible refine eqS ?_ | with_reducible refine neS ?_ | with_reducible refine revL ?_
  | ((with_reducible refine idDb ?_); first | refine Db.one ?_ | refine Db.cons ?_ | refine Db.nil ?_)
  | ((with_reducible refine idDs ?_); first | refine Ds.ret ?_ | refine Ds.if_ ?_ | refine Ds.set' 0 ?_ | refine Ds.set' 1 ?_ | refine Ds.set' 2 ?_ | refine Ds.set' 3 ?_ | refine Ds.set' 4 ?_ | refine Ds.set' 5 ?_ | refine Ds.set' 6 ?_ | refine Ds.set' 7 ?_ | refine Ds.set' 8 ?_ | refine Ds.set' 9 ?_ | refine Ds.set' 10 ?_ | refine Ds.set' 11 ?_ | refine Ds.set' 12 ?_ | refine Ds.set' 13 ?_)
  | ((with_reducible refine idDe ?_); first
    | refine De.name 0 rfl ?_ | refine De.name 1 rfl ?_ | refine De.name 2 rfl ?_ | refine De.name 3 rfl ?_ | refine De.name 4 rfl ?_ | refine De.name 5 rfl ?_ | refine De.name 6 rfl ?_ | refine De.name 7 rfl ?_ | refine De.name 8 rfl ?_ | refine De.name 9 rfl ?_ | refine De.name 10 rfl ?_ | refine De.name 11 rfl ?_ | refine De.name 12 rfl ?_ | refine De.name 13 rfl ?_
    | refine De.nat (n := 0) ?_ | refine De.nat (n := 1) ?_ | refine De.nat (n := 2) ?_ | refine De.nat ?_ | refine De.str ?_ | refine De.bl ?_ | refine De.non ?_
    | refine De.add ?_ | refine De.sub ?_ | refine De.mul ?_ | refine De.shl ?_ | refine De.shr ?_ | refine De.band ?_ | refine De.bor ?_ | refine De.bxor ?_ | refine De.mod ?_ | refine De.fdiv ?_ | refine De.pow ?_
    | refine De.eq ?_ | refine De.ne ?_ | refine De.lt ?_ | refine De.le ?_ | refine De.gt ?_ | refine De.ge ?_
    | refine De.chLL ?_ | refine De.chLl ?_
    | refine De.and1 ?_ | refine De.and ?_ | refine De.or ?_ | refine De.not ?_ | refine De.ite ?_
    | refine De.tup ?_ | refine De.lst ?_
    | refine De.rev ?_ | refine De.slLo ?_ | refine De.slHi ?_ | refine De.ix ?_ | refine De.fld ?_
    | refine De.isi (fun _ => Txt.isinstance) ?_ | refine De.len (fun _ => Txt.len) ?_ | refine De.toTup (fun _ => Txt.tuple) ?_ | refine De.toLst (fun _ => Txt.list) ?_ | refine De.toInt (fun _ => Txt.int) ?_ | refine De.allB (fun _ => Txt.all) ?_ | refine De.sum (fun _ => Txt.sum) ?_
    | refine De.min2 (fun _ => Txt.min) ?_ | refine De.abs (fun _ => Txt.abs) ?_ | refine De.sortI (fun _ => Txt.sorted) ?_
    | refine bcls (fun _ => Txt.int) boot_int ?_ | refine bcls (fun _ => Txt.bool) boot_bool ?_ | refine bcls (fun _ => Txt.tuple) boot_tuple ?_ | refine bcls (fun _ => Txt.str) boot_str ?_
    | refine ocls (fun _ => Txt.gS) ?_
    | refine gnat (fun _ => Txt.MOST_LEAVES) ?_ | refine gnat (fun _ => Txt.MOST_GATES) ?_ | refine gnat (fun _ => Txt.MOST_HELD) ?_ | refine gnat (fun _ => Txt.MOST_FREE) ?_ | refine gnat (fun _ => Txt.MOST_LAID) ?_ | refine gnat (fun _ => Txt.MOST_KIN) ?_)
  | ((with_reducible refine idDt ?_); first
    | refine Dt.eq ?_ | refine Dt.ne ?_ | refine Dt.lt ?_ | refine Dt.le ?_ | refine Dt.gt ?_ | refine Dt.ge ?_
    | refine Dt.not ?_ | refine Dt.or2 ?_ | refine Dt.and2 ?_ | refine Dt.or3 ?_ | refine Dt.truthB ?_ | refine Dt.val ?_)
  | ((with_reducible refine idDa ?_); first | refine Da.nil ?_ | refine Da.cons ?_)
  | ((with_reducible refine idDi ?_); first | refine Di.range1 (fun _ => Txt.range) ?_ | refine Di.range2 (fun _ => Txt.range) ?_ | refine Di.enum (fun _ => Txt.enumerate) ?_)
  | refine fun _ => ⟨Txt.cS.cl, Txt.nS _ (by decide), _, rfl, ?_⟩ | refine fun _ => ⟨Txt.cM.cl, Txt.nM _ (by decide), _, rfl, ?_⟩
  | refine fun _ => isi_int rfl ?_ | refine fun _ => isi_bool rfl ?_ | refine fun _ => isi_tuple rfl ?_ | refine fun _ => isi_str rfl ?_))
variable {G : Glo} [Txt G]
/-! ### machines of sums -/
theorem gatesOk_app {n : Nat} {gs : List Gate} {g : Gate} (h : gatesOk n gs) (hg : Gate.ok (n + gs.length) g) (hs : g.small) : gatesOk n (gs ++ [g]) := by
  intro i x e
  by_cases hi : i < gs.length
  · rw [List.getElem?_append_left hi] at e
    exact h i x e
  · rw [List.getElem?_append_right (by omega)] at e
    have e2 := (List.getElem?_eq_some_iff.mp e).1
    rw [List.length_singleton] at e2
    have e3 : i = gs.length := by omega
    subst e3
    rw [Nat.sub_self] at e
    cases e
    exact ⟨hg, hs⟩
/-- what a chain of sums keeps -/
structure SumOk (n : Nat) (s : List Gate × Nat) : Prop where
  ok : gatesOk n s.1
  pos : 1 ≤ s.1.length
  ref : s.2 < 2 * (n + s.1.length)
theorem sumStep_ok {n : Nat} {s : List Gate × Nat} {r : Nat} (h : SumOk n s) (hr : r < 2 * n) : SumOk n (sumStep n s r) := by
  unfold sumStep
  split
  · exact ⟨h.ok, h.pos, by have := h.pos; dsimp only; omega⟩
  · refine ⟨gatesOk_app h.ok ⟨h.ref, by omega⟩ trivial, ?_, ?_⟩
    · dsimp only
      rw [List.length_append]
      have := h.pos
      omega
    · dsimp only
      rw [List.length_append, List.length_singleton]
      omega
theorem sumOf_ok {n : Nat} {gs : List Gate} {refs : List Nat} (h : gatesOk n gs) (hp : 1 ≤ gs.length) (hr : ∀ r ∈ refs, r < 2 * n) : SumOk n (sumOf n gs refs) := by
  unfold sumOf
  have go : ∀ (refs : List Nat) (s : List Gate × Nat), SumOk n s → (∀ r ∈ refs, r < 2 * n) → SumOk n (refs.foldl (sumStep n) s) := by
    intro refs
    induction refs with
    | nil => intro s h _; exact h
    | cons r refs ih => intro s h hr; exact ih _ (sumStep_ok h (hr r List.mem_cons_self)) fun x hx => hr x (List.mem_cons_of_mem _ hx)
  exact go refs _ ⟨h, hp, by dsimp only; omega⟩ hr
def gate0 : Gate := .and []
theorem gate0_ok (n : Nat) : gatesOk n [gate0] := by
  intro i x e
  have e2 := (List.getElem?_eq_some_iff.mp e).1
  rw [List.length_singleton] at e2
  have e3 : i = 0 := by omega
  subst e3
  cases e
  exact ⟨fun r hr => (by cases hr), Nat.zero_le _⟩
theorem mem_bits {n i : Nat} (h : i ∈ bitsN n) : i < 20 ∧ n.testBit i = true := by
  unfold bitsN at h
  have h := List.mem_filter.mp h
  exact ⟨List.mem_range.mp h.1, h.2⟩
theorem bits_len (n : Nat) : (bitsN n).length ≤ 20 := by
  unfold bitsN
  refine Nat.le_trans (List.length_filter_le ..) ?_
  rw [List.length_range]
  exact Nat.le_refl _
theorem bits_lt {n k : Nat} (h : n < 2 ^ k) : ∀ i ∈ bitsN n, i < k := by
  intro i hi
  apply Nat.lt_of_not_le
  intro z
  have e := (mem_bits hi).2
  rw [Nat.testBit_lt_two_pow (Nat.lt_of_lt_of_le h (Nat.pow_le_pow_right (by decide) z))] at e
  cases e
/-! _law_sum_said -/
abbrev sSumSaid : Stmt := topS 52
abbrev NSumSaid : List Str := ["held", "row", "is_turned", "gates", "ref", "flag"]
theorem scSumSaid : FnScope NSumSaid ["held", "row", "is_turned"] (defScope sSumSaid) := ⟨rfl, rfl, rfl, by decide +kernel, rfl, by decide +kernel, by decide +kernel⟩
def saidS (held row : Nat) : List Gate × Nat := sumOf held [gate0] ((bitsN row).map fun f => 2 * f)
def turn (t : Bool) (r : Nat) : Nat := r ^^^ (if t = true then 1 else 0)
theorem turn_lt {t : Bool} {r n : Nat} (h : r < 2 * n) : turn t r < 2 * n := by
  unfold turn
  cases t
  · rw [if_neg (by decide), Nat.xor_zero]
    exact h
  · rw [if_pos rfl]
    have h1 : (r ^^^ 1) / 2 = r / 2 := by rw [Nat.xor_div_two]; simp
    omega
def spSumSaid (G : Glo) [Txt G] : DSpec := fun ds Q => ∃ (held row : Nat) (t : Bool), ds = [natD held, natD row, .bl t] ∧ held ≤ 16 ∧ row < 2 ^ held ∧ Q (sayD (Txt.CS G) held (saidS held row).1 (turn t (saidS held row).2))
theorem saidS_ok {held row : Nat} (h : row < 2 ^ held) : SumOk held (saidS held row) := sumOf_ok (gate0_ok _) (Nat.le_refl _) fun r hr => by
  obtain ⟨f, hf, rfl⟩ := List.mem_map.mp hr
  have := bits_lt h f hf
  omega
theorem saidS_len (held row : Nat) : (saidS held row).1.length ≤ 21 := by
  have h := sumOf_len held [gate0] ((bitsN row).map fun f => 2 * f)
  rw [List.length_map, List.length_singleton] at h
  have := bits_len row
  unfold saidS
  omega
theorem ok_sum_said {f : Addr} {fd : FuncData} {x qual : Str} (F : Fun G.K x qual sSumSaid f fd) (cB : Callee G "_law_bits" spBits 1) (cS : Callee G "_law_sum_of" spSumOf 1) (mS : Maker G "Saying" (Txt.CS G) spSayInit 4) : FnOk G.P G.w G.K G.mg G.base CX0 6 f fd ["held", "row", "is_turned"] (spD G.K (spSumSaid G)) := by
  refine defD F scSumSaid (fun ds Q h => by obtain ⟨g, m, t, rfl, _⟩ := h; rfl) (fun ds Q h => ?_)
  obtain ⟨held, row, t, rfl, hm, hr, hq⟩ := h
  have ok := saidS_ok hr
  have sl := saidS_len held row
  repeat walk_at "d"
  refine Ds.unp (Tgt.two 3 4 (fun _ => scSumSaid.nd)) ?_
  refine De.call cS ?_
  repeat walk_at "d"
  refine ⟨Nat.zero_le _, ?_⟩
  repeat walk_at "d"
  refine ⟨by rw [sizeLine_eq]; exact Nat.le_of_ble_eq_true rfl, ?_⟩
  repeat walk_at "d"
  refine ⟨by rw [sizeLine_eq]; exact Nat.le_of_ble_eq_true rfl, ?_⟩
  repeat walk_at "d"
  refine De.lc [("flag", 5)] .no (Tgt.name 5 (fun _ => scSumSaid.nd)) (fun _ => blkOk_by (N := ["held", "row", "is_turned", "gates", "ref", "flag"]) (sc := (defScope sSumSaid)) (by decide +kernel)) (fun _ => scSumSaid.nd) ?_
  refine Di.seq ?_
  refine De.call cB ?_
  repeat walk_at "d"
  refine ⟨row, rfl, ?_⟩
  repeat walk_at "d"
  refine ⟨by rw [List.length_map, sizeLine_eq]; have := bits_len row; omega, lc_mapG natD (fun f => natD (2 * f)) (bitsN row) ?_ fun f hf Q' hq' => ?_⟩
  rotate_left
  · repeat walk_at "d"
    exact hq'
  repeat walk_at "d"
  refine ⟨[gate0], held, (bitsN row).map fun f => 2 * f, ?_, ?_, ?_⟩
  · rw [List.map_map]
    rfl
  · rw [List.length_map, List.length_singleton]
    have := bits_len row
    omega
  refine ⟨_, rfl, ?_⟩
  show Db _ [.sh (natD held), .sh (natD row), .sh (.bl t), .sh (gatesD (saidS held row).1), .sh (natD (saidS held row).2), .no] _ _
  repeat walk_at "d"
  refine De.make mS ?_
  repeat walk_at "d"
  exact ⟨held, turn t (saidS held row).2, (saidS held row).1, rfl, by omega, by omega, ok.ok, turn_lt ok.ref, hq⟩
end K13
set_option Elab.async false
set_option linter.all false
set_option maxRecDepth 100000
set_option maxHeartbeats 4000000
set_option pp.maxSteps 300
namespace K13
open PySem PySem.Spec PyProof.Rows L2 DL
local macro_rules | `(tactic| walk_at "d") => `(tactic| (first
  | with_reducible refine addN ?_ | with_reducible refine subN (by omega) ?_ | with_reducible refine mulN (by first | exact .inl (by decide) | exact .inr (by decide) | omega) ?_ | with_reducible refine andN ?_ | with_reducible refine orN ?_ | with_reducible refine xorN ?_
  | with_reducible refine modN (by first | decide | omega) ?_ | with_reducible refine fdivN (by first | decide | omega) (by first | decide | omega) ?_ | with_reducible refine shrN ?_ | with_reducible refine shl1 (by omega) ?_
  | with_reducible refine ltN ?_ | with_reducible refine leN ?_ | with_reducible refine gtN ?_ | with_reducible refine geN ?_ | with_reducible refine eqN ?_ | with_reducible refine neN ?_ | with_reducible refine absN ?_ | with_reducible refine minN ?_ | with_reducible refine intB ?_
  | with_reducible refine ixL (by with_unfolding_all rfl) ?_ | with_reducible refine ixT (by with_unfolding_all rfl) ?_
  | with_reducible refine rngN (by first | omega | decide) ?_
  | with_reducible refine lenTm ?_ | with_reducible refine lenLm ?_ | with_reducible refine lenT ?_ | with_reducible refine lenL ?_ | with_reducible refine tupL ?_ | with_reducible refine tupT ?_ | with_reducible refine lstL ?_ | with_reducible refine lstT ?_ | with_reducible refine itmL ?_ | with_reducible refine itmT ?_ | with_reducible refine enmL ?_ | with_reducible refine enmT ?_ | with_reducible refine eqS ?_ | with_reducible refine neS ?_ | with_reducible refine revL ?_
  | ((with_reducible refine idDb ?_); first | refine Db.one ?_ | refine Db.cons ?_ | refine Db.nil ?_)
  | ((with_reducible refine idDs ?_); first | refine Ds.ret ?_ | refine Ds.if_ ?_ | refine Ds.set' 0 ?_ | refine Ds.set' 1 ?_ | refine Ds.set' 2 ?_ | refine Ds.set' 3 ?_ | refine Ds.set' 4 ?_ | refine Ds.set' 5 ?_ | refine Ds.set' 6 ?_ | refine Ds.set' 7 ?_ | refine Ds.set' 8 ?_ | refine Ds.set' 9 ?_ | refine Ds.set' 10 ?_ | refine Ds.set' 11 ?_ | refine Ds.set' 12 ?_ | refine Ds.set' 13 ?_)
  | ((with_reducible refine idDe ?_); first
    | refine De.name 0 rfl ?_ | refine De.name 1 rfl ?_ | refine De.name 2 rfl ?_ | refine De.name 3 rfl ?_ | refine De.name 4 rfl ?_ | refine De.name 5 rfl ?_ | refine De.name 6 rfl ?_ | refine De.name 7 rfl ?_ | refine De.name 8 rfl ?_ | refine De.name 9 rfl ?_ | refine De.name 10 rfl ?_ | refine De.name 11 rfl ?_ | refine De.name 12 rfl ?_ | refine De.name 13 rfl ?_
    | refine De.nat (n := 0) ?_ | refine De.nat (n := 1) ?_ | refine De.nat (n := 2) ?_ | refine De.nat ?_ | refine De.str ?_ | refine De.bl ?_ | refine De.non ?_
    | refine De.add ?_ | refine De.sub ?_ | refine De.mul ?_ | refine De.shl ?_ | refine De.shr ?_ | refine De.band ?_ | refine De.bor ?_ | refine De.bxor ?_ | refine De.mod ?_ | refine De.fdiv ?_ | refine De.pow ?_
    | refine De.eq ?_ | refine De.ne ?_ | refine De.lt ?_ | refine De.le ?_ | refine De.gt ?_ | refine De.ge ?_
    | refine De.chLL ?_ | refine De.chLl ?_
    | refine De.and1 ?_ | refine De.and ?_ | refine De.or ?_ | refine De.not ?_ | refine De.ite ?_
    | refine De.tup ?_ | refine De.lst ?_
    | refine De.rev ?_ | refine De.slLo ?_ | refine De.slHi ?_ | refine De.ix ?_ | refine De.fld ?_
    | refine De.isi (fun _ => Txt.isinstance) ?_ | refine De.len (fun _ => Txt.len) ?_ | refine De.toTup (fun _ => Txt.tuple) ?_ | refine De.toLst (fun _ => Txt.list) ?_ | refine De.toInt (fun _ => Txt.int) ?_ | refine De.allB (fun _ => Txt.all) ?_ | refine De.sum (fun _ => Txt.sum) ?_
    | refine De.min2 (fun _ => Txt.min) ?_ | refine De.abs (fun _ => Txt.abs) ?_ | refine De.sortI (fun _ => Txt.sorted) ?_
    | refine bcls (fun _ => Txt.int) boot_int ?_ | refine bcls (fun _ => Txt.bool) boot_bool ?_ | refine bcls (fun _ => Txt.tuple) boot_tuple ?_ | refine bcls (fun _ => Txt.str) boot_str ?_
    | refine ocls (fun _ => Txt.gS) ?_
    | refine gnat (fun _ => Txt.MOST_LEAVES) ?_ | refine gnat (fun _ => Txt.MOST_GATES) ?_ | refine gnat (fun _ => Txt.MOST_HELD) ?_ | refine gnat (fun _ => Txt.MOST_FREE) ?_ | refine gnat (fun _ => Txt.MOST_LAID) ?_ | refine gnat (fun _ => Txt.MOST_KIN) ?_)
  | ((with_reducible refine idDt ?_); first
    | refine Dt.eq ?_ | refine Dt.ne ?_ | refine Dt.lt ?_ | refine Dt.le ?_ | refine Dt.gt ?_ | refine Dt.ge ?_
    | refine Dt.not ?_ | refine Dt.or2 ?_ | refine Dt.and2 ?_ | refine Dt.or3 ?_ | refine Dt.truthB ?_ | refine Dt.val ?_)
  | ((with_reducible refine idDa ?_); first | refine Da.nil ?_ | refine Da.cons ?_)
  | ((with_reducible refine idDi ?_); first | refine Di.range1 (fun _ => Txt.range) ?_ | refine Di.range2 (fun _ => Txt.range) ?_ | refine Di.enum (fun _ => Txt.enumerate) ?_)
  | refine fun _ => ⟨Txt.cS.cl, Txt.nS _ (by decide), _, rfl, ?_⟩ | refine fun _ => ⟨Txt.cM.cl, Txt.nM _ (by decide), _, rfl, ?_⟩
  | refine fun _ => isi_int rfl ?_ | refine fun _ => isi_bool rfl ?_ | refine fun _ => isi_tuple rfl ?_ | refine fun _ => isi_str rfl ?_))
variable {G : Glo} [Txt G]
/-! ### _law_sums, _law_made -/
def kRefs (held : Nat) (own put : List (List Nat)) (k : Nat) : List Nat := (own.getD k []).map (fun f => 2 * f) ++ (put.getD k []).map fun f => 2 * (held + f)
def sumsGo (held free : Nat) (own put : List (List Nat)) : Nat → List Gate × List Nat
  | 0 => ([gate0], [])
  | k + 1 => ((sumOf (held + free) (sumsGo held free own put k).1 (kRefs held own put k)).1, (sumsGo held free own put k).2 ++ [(sumOf (held + free) (sumsGo held free own put k).1 (kRefs held own put k)).2])
theorem sumsGo_succ (held free : Nat) (own put : List (List Nat)) (k : Nat) : sumsGo held free own put (k + 1) = ((sumOf (held + free) (sumsGo held free own put k).1 (kRefs held own put k)).1, (sumsGo held free own put k).2 ++ [(sumOf (held + free) (sumsGo held free own put k).1 (kRefs held own put k)).2]) := rfl
structure RowsOk (held free : Nat) (own put : List (List Nat)) : Prop where
  h1 : held ≤ 16
  h2 : free ≤ 8
  lo : own.length = held
  lp : put.length = held
  own : ∀ l ∈ own, l.length ≤ 20 ∧ ∀ f ∈ l, f < held
  put : ∀ l ∈ put, l.length ≤ 20 ∧ ∀ f ∈ l, f < free
structure GoOk (held free k : Nat) (g : List Gate × List Nat) : Prop where
  ok : gatesOk (held + free) g.1
  pos : 1 ≤ g.1.length
  len : g.1.length ≤ 1 + 40 * k
  sl : g.2.length = k
  steps : ∀ r ∈ g.2, r < 2 * (held + free + g.1.length)
theorem getD_mem {α : Type} {l : List α} {k : Nat} {d : α} (h : k < l.length) : l.getD k d ∈ l := by
  rw [List.getD_eq_getElem?_getD, List.getElem?_eq_getElem h]
  exact List.getElem_mem h
theorem kRefs_len {held free : Nat} {own put : List (List Nat)} (h : RowsOk held free own put) {k : Nat} (hk : k < held) : (kRefs held own put k).length ≤ 40 := by
  unfold kRefs
  rw [List.length_append, List.length_map, List.length_map]
  have a := (h.own _ (getD_mem (d := []) (by rw [h.lo]; exact hk))).1
  have b := (h.put _ (getD_mem (d := []) (by rw [h.lp]; exact hk))).1
  omega
theorem kRefs_lt {held free : Nat} {own put : List (List Nat)} (h : RowsOk held free own put) {k : Nat} (hk : k < held) : ∀ r ∈ kRefs held own put k, r < 2 * (held + free) := by
  intro r hr
  unfold kRefs at hr
  rcases List.mem_append.mp hr with hr | hr
  · obtain ⟨f, hf, rfl⟩ := List.mem_map.mp hr
    have a := (h.own _ (getD_mem (d := []) (by rw [h.lo]; exact hk))).2 f hf
    omega
  · obtain ⟨f, hf, rfl⟩ := List.mem_map.mp hr
    have a := (h.put _ (getD_mem (d := []) (by rw [h.lp]; exact hk))).2 f hf
    omega
theorem sumFold_len2 (leaves : Nat) : ∀ (refs : List Nat) (s : List Gate × Nat), s.1.length ≤ (refs.foldl (sumStep leaves) s).1.length
  | [], s => Nat.le_refl _
  | r :: refs, s => by
    rw [List.foldl_cons]
    have h := sumFold_len2 leaves refs (sumStep leaves s r)
    have h2 : s.1.length ≤ (sumStep leaves s r).1.length := by
      unfold sumStep
      split
      · exact Nat.le_refl _
      · rw [List.length_append]
        omega
    omega
theorem sumsGo_ok {held free : Nat} {own put : List (List Nat)} (h : RowsOk held free own put) : ∀ k, k ≤ held → GoOk held free k (sumsGo held free own put k)
  | 0, _ => ⟨gate0_ok _, Nat.le_refl _, Nat.le_refl _, rfl, fun r hr => by cases hr⟩
  | k + 1, hk => by
    have ih := sumsGo_ok h k (by omega)
    rw [sumsGo_succ]
    generalize sumsGo held free own put k = g at *
    have s := sumOf_ok ih.ok ih.pos (kRefs_lt h (by omega : k < held))
    have l1 := sumOf_len (held + free) g.1 (kRefs held own put k)
    have l2 := kRefs_len h (by omega : k < held)
    have l3 : g.1.length ≤ (sumOf (held + free) g.1 (kRefs held own put k)).1.length := sumFold_len2 _ _ (g.1, _)
    have l4 := ih.len
    refine ⟨s.ok, s.pos, ?_, ?_, fun r hr => ?_⟩
    · dsimp only
      omega
    · dsimp only
      rw [List.length_append, List.length_singleton, ih.sl]
    · dsimp only at hr ⊢
      rcases List.mem_append.mp hr with hr | hr
      · have := ih.steps r hr
        omega
      · cases List.mem_singleton.mp hr
        exact s.ref
def sumsM (held free : Nat) (own put : List (List Nat)) (start : D) : Mach := ⟨held, free, (sumsGo held free own put held).1, 2 * (held + free), (sumsGo held free own put held).2, start⟩
theorem sumsM_ok {held free : Nat} {own put : List (List Nat)} (h : RowsOk held free own put) {start : D} (hs : saysN G start held true) : (sumsM held free own put start).Ok G := by
  have ok := sumsGo_ok h held (Nat.le_refl _)
  have l := ok.len
  have h1 := h.h1
  refine ⟨h.h1, h.h2, ?_, ok.ok, ?_, ok.sl, ok.steps, hs⟩
  · show (sumsGo held free own put held).1.length ≤ 4000
    omega
  · show 2 * (held + free) < 2 * (held + free + (sumsGo held free own put held).1.length)
    have := ok.pos
    omega
abbrev sSums : Stmt := topS 42
abbrev NSums : List Str := ["own", "put", "free", "begun", "held", "leaves", "gates", "steps", "k", "refs", "ref", "flag"]
theorem scSums : FnScope NSums ["own", "put", "free", "begun"] (defScope sSums) := ⟨rfl, rfl, rfl, by decide +kernel, rfl, by decide +kernel, by decide +kernel⟩
abbrev rowsL (l : List (List Nat)) : D := .lst (l.map natsT)
def spSums (G : Glo) [Txt G] : DSpec := fun ds Q => ∃ (held free : Nat) (own put : List (List Nat)) (begun : List (List Bool)), ds = [rowsL own, rowsL put, natD free, .lst (begun.map boolsD)] ∧ RowsOk held free own put ∧ begun.length ≤ 100 ∧ (∀ r ∈ begun, r.length = held) ∧ ∀ start, saysN G start held true → Q ((sumsM held free own put start).d G)
theorem getD_rows {l : List (List Nat)} {i : Nat} (h : i < l.length) : (l.map natsT)[i]? = some (natsT (l.getD i [])) := by
  rw [List.getElem?_map, List.getElem?_eq_getElem h, List.getD_eq_getElem?_getD, List.getElem?_eq_getElem h]
  rfl
theorem ok_sums {f : Addr} {fd : FuncData} {x qual : Str} (F : Fun G.K x qual sSums f fd) (cS : Callee G "_law_sum_of" spSumOf 1) (cY : Callee G "_law_saying" (spLSaying G) 6) (mM : Maker G "Machine" (Txt.CM G) (spMachInit G) 4) : FnOk G.P G.w G.K G.mg G.base CX0 7 f fd ["own", "put", "free", "begun"] (spD G.K (spSums G)) := by
  refine defD F scSums (fun ds Q h => by obtain ⟨_, _, _, _, _, rfl, _⟩ := h; rfl) (fun ds Q h => ?_)
  obtain ⟨held, free, own, put, begun, rfl, ok, hb, hbl, hq⟩ := h
  obtain ⟨h1, h2, lo, lp, ho, hp⟩ := id ok
  repeat walk_at "d"
  refine Dl.sh ?_
  repeat walk_at "d"
  rw [lo]
  refine Ds.par3 5 6 7 (fun _ => scSums.nd) (Dl.sh ?_)
  repeat walk_at "d"
  refine Dl.sh ?_
  repeat walk_at "d"
  refine ⟨Nat.zero_le _, ?_⟩
  repeat walk_at "d"
  refine ⟨by rw [sizeLine_eq]; exact Nat.le_of_ble_eq_true rfl, ?_⟩
  repeat walk_at "d"
  refine ⟨by rw [sizeLine_eq]; exact Nat.le_of_ble_eq_true rfl, ?_⟩
  refine Dl.lst ?_
  repeat walk_at "d"
  refine ⟨Nat.zero_le _, ?_⟩
  repeat walk_at "d"
  refine Ds.for_ (Tgt.name 8 (fun _ => scSums.nd)) ?_
  repeat walk_at "d"
  refine for_nats (fun i ρ => ∃ s8 s9 s10 s11, ρ = [.sh (rowsL own), .sh (rowsL put), .sh (natD free), .sh (.lst (begun.map boolsD)), .sh (natD held), .sh (natD (held + free)), .sh (gatesD (sumsGo held free own put i).1), .ow (.lst ((sumsGo held free own put i).2.map natD)), s8, s9, s10, s11]) ⟨_, _, _, _, rfl⟩ (fun k ρ hk h => ?_) fun ρ h => ?_
  · obtain ⟨s8, s9, s10, s11, rfl⟩ := h
    have gok := sumsGo_ok ok k (by omega)
    have kl := kRefs_len ok hk
    rw [sumsGo_succ]
    generalize sumsGo held free own put k = g at *
    obtain ⟨gs, st⟩ := g
    have gl := gok.len
    have gsl := gok.sl
    dsimp only at gl gsl ⊢
    repeat walk_at "d"
    refine Dl.sh ?_
    repeat walk_at "d"
    refine De.lc [("flag", 11)] .no (Tgt.name 11 (fun _ => scSums.nd)) (fun _ => blkOk_by (N := ["own", "put", "free", "begun", "held", "leaves", "gates", "steps", "k", "refs", "ref", "flag"]) (sc := (defScope sSums)) (by decide +kernel)) (fun _ => scSums.nd) ?_
    refine Di.seq ?_
    repeat walk_at "d"
    refine ixL (getD_rows (by rw [lo]; exact hk)) ?_
    repeat walk_at "d"
    refine ⟨?_, lc_mapG natD (fun f => natD (2 * f)) (own.getD k []) ?_ fun f hf Q' hq' => ?_⟩
    · rw [List.length_map, sizeLine_eq]
      have a := (ho _ (getD_mem (d := []) (by rw [lo]; exact hk))).1
      omega
    rotate_left
    · repeat walk_at "d"
      exact hq'
    repeat walk_at "d"
    refine De.lc [("flag", 11)] .no (Tgt.name 11 (fun _ => scSums.nd)) (fun _ => blkOk_by (N := ["own", "put", "free", "begun", "held", "leaves", "gates", "steps", "k", "refs", "ref", "flag"]) (sc := (defScope sSums)) (by decide +kernel)) (fun _ => scSums.nd) ?_
    refine Di.seq ?_
    repeat walk_at "d"
    refine ixL (getD_rows (by rw [lp]; exact hk)) ?_
    repeat walk_at "d"
    refine ⟨?_, lc_mapG natD (fun f => natD (2 * (held + f))) (put.getD k []) ?_ fun f hf Q' hq' => ?_⟩
    · rw [List.length_map, sizeLine_eq]
      have a := (hp _ (getD_mem (d := []) (by rw [lp]; exact hk))).1
      omega
    rotate_left
    · repeat walk_at "d"
      exact hq'
    have ek : (own.getD k []).map (fun f => natD (2 * f)) ++ (put.getD k []).map (fun f => natD (2 * (held + f))) = (kRefs held own put k).map natD := by
      unfold kRefs
      rw [List.map_append, List.map_map, List.map_map]
      rfl
    refine addL ?_ ?_
    · rw [← List.length_append, ek, List.length_map, sizeLine_eq]
      omega
    rw [ek]
    repeat walk_at "d"
    refine Ds.unp (Tgt.two 6 10 (fun _ => scSums.nd)) ?_
    refine De.call cS ?_
    repeat walk_at "d"
    refine ⟨gs, held + free, kRefs held own put k, rfl, by omega, _, rfl, ?_⟩
    repeat walk_at "d"
    refine Ds.append 7 rfl (by rw [List.length_map, sizeLine_eq]; omega) ?_
    repeat walk_at "d"
    rw [List.map_append]
    exact ⟨_, _, _, _, rfl⟩
  · obtain ⟨s8, s9, s10, s11, rfl⟩ := h
    refine Db.fz 7 rfl ?_
    repeat walk_at "d"
    refine De.make mM ?_
    repeat walk_at "d"
    refine De.call cY ?_
    repeat walk_at "d"
    refine ⟨held, begun, rfl, h1, hb, hbl, fun gs' r' => ?_⟩
    repeat walk_at "d"
    have hst : saysN G (sayD (Txt.CS G) held gs' r') held true := .inl ⟨held, r', gs', rfl, (decide_eq_true rfl).symm⟩
    exact ⟨sumsM held free own put _, rfl, sumsM_ok ok hst, hq _ hst⟩
end K13
set_option Elab.async false
set_option linter.all false
set_option maxRecDepth 100000
set_option maxHeartbeats 4000000
set_option pp.maxSteps 300
namespace K13
open PySem PySem.Spec PyProof.Rows L2 DL
local macro_rules | `(tactic| walk_at "d") => `(tactic| (first
  | with_reducible refine addN ?_ | with_reducible refine subN (by omega) ?_ | with_reducible refine mulN (by first | exact .inl (by decide) | exact .inr (by decide) | omega) ?_ | with_reducible refine andN ?_ | with_reducible refine orN ?_ | with_reducible refine xorN ?_
  | with_reducible refine modN (by first | decide | omega) ?_ | with_reducible refine fdivN (by first | decide | omega) (by first | decide | omega) ?_ | with_reducible refine shrN ?_ | with_reducible refine shl1 (by omega) ?_
  | with_reducible refine ltN ?_ | with_reducible refine leN ?_ | with_reducible refine gtN ?_ | with_reducible refine geN ?_ | with_reducible refine eqN ?_ | with_reducible refine neN ?_ | with_reducible refine absN ?_ | with_reducible refine minN ?_ | with_reducible refine intB ?_
  | with_reducible refine ixL (by with_unfolding_all rfl) ?_ | with_reducible refine ixT (by with_unfolding_all rfl) ?_
  | with_reducible refine rngN (by first | omega | decide) ?_
  | with_reducible refine lenTm ?_ | with_reducible refine lenLm ?_ | with_reducible refine lenT ?_ | with_reducible refine lenL ?_ | with_reducible refine tupL ?_ | with_reducible refine tupT ?_ | with_reducible refine lstL ?_ | with_reducible refine lstT ?_ | with_reducible refine itmL ?_ | with_reducible refine itmT ?_ | with_reducible refine enmL ?_ | with_reducible refine enmT ?_ | with_reducible refine eqS ?_ | with_reducible refine neS ?_ | with_reducible refine revL ?_
  | ((with_reducible refine idDb ?_); first | refine Db.one ?_ | refine Db.cons ?_ | refine Db.nil ?_)
  | ((with_reducible refine idDs ?_); first | refine Ds.ret ?_ | refine Ds.if_ ?_ | refine Ds.set' 0 ?_ | refine Ds.set' 1 ?_ | refine Ds.set' 2 ?_ | refine Ds.set' 3 ?_ | refine Ds.set' 4 ?_ | refine Ds.set' 5 ?_ | refine Ds.set' 6 ?_ | refine Ds.set' 7 ?_ | refine Ds.set' 8 ?_ | refine Ds.set' 9 ?_ | refine Ds.set' 10 ?_ | refine Ds.set' 11 ?_ | refine Ds.set' 12 ?_ | refine Ds.set' 13 ?_)
  | ((with_reducible refine idDe ?_); first
    | refine De.name 0 rfl ?_ | refine De.name 1 rfl ?_ | refine De.name 2 rfl ?_ | refine De.name 3 rfl ?_ | refine De.name 4 rfl ?_ | refine De.name 5 rfl ?_ | refine De.name 6 rfl ?_ | refine De.name 7 rfl ?_ | refine De.name 8 rfl ?_ | refine De.name 9 rfl ?_ | refine De.name 10 rfl ?_ | refine De.name 11 rfl ?_ | refine De.name 12 rfl ?_ | refine De.name 13 rfl ?_
    | refine De.nat (n := 0) ?_ | refine De.nat (n := 1) ?_ | refine De.nat (n := 2) ?_ | refine De.nat ?_ | refine De.str ?_ | refine De.bl ?_ | refine De.non ?_
    | refine De.add ?_ | refine De.sub ?_ | refine De.mul ?_ | refine De.shl ?_ | refine De.shr ?_ | refine De.band ?_ | refine De.bor ?_ | refine De.bxor ?_ | refine De.mod ?_ | refine De.fdiv ?_ | refine De.pow ?_
    | refine De.eq ?_ | refine De.ne ?_ | refine De.lt ?_ | refine De.le ?_ | refine De.gt ?_ | refine De.ge ?_
    | refine De.chLL ?_ | refine De.chLl ?_
    | refine De.and1 ?_ | refine De.and ?_ | refine De.or ?_ | refine De.not ?_ | refine De.ite ?_
    | refine De.tup ?_ | refine De.lst ?_
    | refine De.rev ?_ | refine De.slLo ?_ | refine De.slHi ?_ | refine De.ix ?_ | refine De.fld ?_
    | refine De.isi (fun _ => Txt.isinstance) ?_ | refine De.len (fun _ => Txt.len) ?_ | refine De.toTup (fun _ => Txt.tuple) ?_ | refine De.toLst (fun _ => Txt.list) ?_ | refine De.toInt (fun _ => Txt.int) ?_ | refine De.allB (fun _ => Txt.all) ?_ | refine De.sum (fun _ => Txt.sum) ?_
    | refine De.min2 (fun _ => Txt.min) ?_ | refine De.abs (fun _ => Txt.abs) ?_ | refine De.sortI (fun _ => Txt.sorted) ?_
    | refine bcls (fun _ => Txt.int) boot_int ?_ | refine bcls (fun _ => Txt.bool) boot_bool ?_ | refine bcls (fun _ => Txt.tuple) boot_tuple ?_ | refine bcls (fun _ => Txt.str) boot_str ?_
    | refine ocls (fun _ => Txt.gS) ?_
    | refine gnat (fun _ => Txt.MOST_LEAVES) ?_ | refine gnat (fun _ => Txt.MOST_GATES) ?_ | refine gnat (fun _ => Txt.MOST_HELD) ?_ | refine gnat (fun _ => Txt.MOST_FREE) ?_ | refine gnat (fun _ => Txt.MOST_LAID) ?_ | refine gnat (fun _ => Txt.MOST_KIN) ?_)
  | ((with_reducible refine idDt ?_); first
    | refine Dt.eq ?_ | refine Dt.ne ?_ | refine Dt.lt ?_ | refine Dt.le ?_ | refine Dt.gt ?_ | refine Dt.ge ?_
    | refine Dt.not ?_ | refine Dt.or2 ?_ | refine Dt.and2 ?_ | refine Dt.or3 ?_ | refine Dt.truthB ?_ | refine Dt.val ?_)
  | ((with_reducible refine idDa ?_); first | refine Da.nil ?_ | refine Da.cons ?_)
  | ((with_reducible refine idDi ?_); first | refine Di.range1 (fun _ => Txt.range) ?_ | refine Di.range2 (fun _ => Txt.range) ?_ | refine Di.enum (fun _ => Txt.enumerate) ?_)
  | refine fun _ => ⟨Txt.cS.cl, Txt.nS _ (by decide), _, rfl, ?_⟩ | refine fun _ => ⟨Txt.cM.cl, Txt.nM _ (by decide), _, rfl, ?_⟩
  | refine fun _ => isi_int rfl ?_ | refine fun _ => isi_bool rfl ?_ | refine fun _ => isi_tuple rfl ?_ | refine fun _ => isi_str rfl ?_))
variable {G : Glo} [Txt G]
/-! ### _law_made, _law_mixed, _law_told_by -/
abbrev sMade : Stmt := topS 49
abbrev NMade : List Str := ["own", "put", "free", "begun", "some", "number", "row"]
theorem scMade : FnScope NMade ["own", "put", "free", "begun"] (defScope sMade) := ⟨rfl, rfl, rfl, by decide +kernel, rfl, by decide +kernel, by decide +kernel⟩
structure NumsOk (held free : Nat) (own put : List Nat) : Prop where
  h1 : held ≤ 16
  h2 : free ≤ 8
  lo : own.length = held
  lp : put.length = held
  own : ∀ n ∈ own, n < 2 ^ held
  put : ∀ n ∈ put, n < 2 ^ free
theorem NumsOk.rows {held free : Nat} {own put : List Nat} (h : NumsOk held free own put) : RowsOk held free (own.map bitsN) (put.map bitsN) := by
  refine ⟨h.h1, h.h2, by rw [List.length_map]; exact h.lo, by rw [List.length_map]; exact h.lp, fun l hl => ?_, fun l hl => ?_⟩
  · obtain ⟨n, hn, rfl⟩ := List.mem_map.mp hl
    exact ⟨bits_len n, bits_lt (h.own n hn)⟩
  · obtain ⟨n, hn, rfl⟩ := List.mem_map.mp hl
    exact ⟨bits_len n, bits_lt (h.put n hn)⟩
def madeM (held free : Nat) (own put : List Nat) (start : D) : Mach := sumsM held free (own.map bitsN) (put.map bitsN) start
def spMade (G : Glo) [Txt G] : DSpec := fun ds Q => ∃ (held free : Nat) (own put begun : List Nat), ds = [natsL own, natsL put, natD free, natsL begun] ∧ NumsOk held free own put ∧ begun.length ≤ 100 ∧ ∀ start, saysN G start held true → Q ((madeM held free own put start).d G)
theorem standOf_len (n m : Nat) : (standOf n m).length = m := by
  unfold standOf
  rw [List.length_map, List.length_range]
theorem ok_made {f : Addr} {fd : FuncData} {x qual : Str} (F : Fun G.K x qual sMade f fd) (cT : Callee G "_law_stand" spLStand 1) (cB : Callee G "_law_bits" spBits 1) (cS : Callee G "_law_sums" (spSums G) 7) : FnOk G.P G.w G.K G.mg G.base CX0 8 f fd ["own", "put", "free", "begun"] (spD G.K (spMade G)) := by
  refine defD F scMade (fun ds Q h => by obtain ⟨_, _, _, _, _, rfl, _⟩ := h; rfl) (fun ds Q h => ?_)
  obtain ⟨held, free, own, put, begun, rfl, ok, hb, hq⟩ := h
  obtain ⟨h1, h2, lo, lp, ho, hp⟩ := id ok
  repeat walk_at "d"
  refine Ds.setLc 4 [("number", 5)] .no (Tgt.name 5 (fun _ => scMade.nd)) (fun _ => blkOk_by (N := ["own", "put", "free", "begun", "some", "number", "row"]) (sc := (defScope sMade)) (by decide +kernel)) (fun _ => scMade.nd) ?_
  refine Di.seq ?_
  repeat walk_at "d"
  refine ⟨by rw [List.length_map, sizeLine_eq]; omega, lc_mapG natD (fun n => boolsD (standOf n held)) begun ?_ fun n hn Q' hq' => ?_⟩
  rotate_left
  · refine De.call cT ?_
    repeat walk_at "d"
    rw [lo]
    exact ⟨n, held, rfl, by omega, hq'⟩
  refine Db.fz 4 rfl ?_
  repeat walk_at "d"
  refine De.call cS ?_
  repeat walk_at "d"
  refine De.lc [("row", 6)] .no (Tgt.name 6 (fun _ => scMade.nd)) (fun _ => blkOk_by (N := ["own", "put", "free", "begun", "some", "number", "row"]) (sc := (defScope sMade)) (by decide +kernel)) (fun _ => scMade.nd) ?_
  refine Di.seq ?_
  repeat walk_at "d"
  refine ⟨by rw [List.length_map, sizeLine_eq]; omega, lc_mapG natD (fun n => natsT (bitsN n)) own ?_ fun n hn Q' hq' => ?_⟩
  rotate_left
  · refine De.call cB ?_
    repeat walk_at "d"
    exact ⟨n, rfl, hq'⟩
  repeat walk_at "d"
  refine De.lc [("row", 6)] .no (Tgt.name 6 (fun _ => scMade.nd)) (fun _ => blkOk_by (N := ["own", "put", "free", "begun", "some", "number", "row"]) (sc := (defScope sMade)) (by decide +kernel)) (fun _ => scMade.nd) ?_
  refine Di.seq ?_
  repeat walk_at "d"
  refine ⟨by rw [List.length_map, sizeLine_eq]; omega, lc_mapG natD (fun n => natsT (bitsN n)) put ?_ fun n hn Q' hq' => ?_⟩
  rotate_left
  · refine De.call cB ?_
    repeat walk_at "d"
    exact ⟨n, rfl, hq'⟩
  repeat walk_at "d"
  refine ⟨held, free, own.map bitsN, put.map bitsN, begun.map fun n => standOf n held, ?_, ok.rows, by rw [List.length_map]; exact hb, fun r hr => ?_, hq⟩
  · simp only [rowsL, List.map_map]
    rfl
  · obtain ⟨n, _, rfl⟩ := List.mem_map.mp hr
    exact standOf_len n held
abbrev sMixed : Stmt := topS 48
abbrev NMixed : List Str := ["own", "put", "one", "other", "row"]
theorem scMixed : FnScope NMixed ["own", "put", "one", "other"] (defScope sMixed) := ⟨rfl, rfl, rfl, by decide +kernel, rfl, by decide +kernel, by decide +kernel⟩
def xorAt (l : List Nat) (i j : Nat) : List Nat := l.set i (l.getD i 0 ^^^ l.getD j 0)
def mixRow (one other row : Nat) : Nat := row ^^^ ((row >>> one &&& 1) * 2 ^ other)
def spMixed : DSpec := fun ds Q => ∃ (own put : List Nat) (one other : Nat), ds = [natsL own, natsL put, natD one, natD other] ∧ own.length ≤ 100 ∧ put.length = own.length ∧ one < own.length ∧ other < own.length ∧ Q (.tup [natsL ((xorAt own one other).map (mixRow one other)), natsL (xorAt put one other)])
theorem ok_mixed {f : Addr} {fd : FuncData} {x qual : Str} (F : Fun G.K x qual sMixed f fd) : FnOk G.P G.w G.K G.mg G.base CX0 1 f fd ["own", "put", "one", "other"] (spD G.K spMixed) := by
  refine defD F scMixed (fun ds Q h => by obtain ⟨_, _, _, _, rfl, _⟩ := h; rfl) (fun ds Q h => ?_)
  obtain ⟨own, put, one, other, rfl, hl, hp, h1, h2, hq⟩ := h
  repeat walk_at "d"
  refine Ds.par2 0 1 (fun _ => scMixed.nd) (Dl.toLst (fun _ => Txt.list) ?_)
  repeat walk_at "d"
  refine Dl.toLst (fun _ => Txt.list) ?_
  repeat walk_at "d"
  show Db _ [.ow (.lst (own.map natD)), .ow (.lst (put.map natD)), .sh (natD one), .sh (natD other), .no] _ _
  repeat walk_at "d"
  refine Ds.setIx2 0 1 (by decide) rfl rfl ?_
  refine De.tup (Da.cons ?_)
  refine De.bw 0 rfl ?_
  repeat walk_at "d"
  refine ixL (getD_nat h1) ?_
  repeat walk_at "d"
  refine ixL (getD_nat h2) ?_
  repeat walk_at "d"
  refine ⟨rfl, Da.cons ?_⟩
  refine De.bw 1 rfl ?_
  repeat walk_at "d"
  refine ixL (getD_nat (by omega)) ?_
  repeat walk_at "d"
  refine ixL (getD_nat (by omega)) ?_
  repeat walk_at "d"
  refine ⟨rfl, ?_⟩
  repeat walk_at "d"
  refine ⟨by rw [sizeLine_eq]; exact Nat.le_of_ble_eq_true rfl, _, _, rfl, ?_⟩
  repeat walk_at "d"
  refine ⟨Int.natCast_nonneg _, by rw [List.length_map]; omega, ?_⟩
  repeat walk_at "d"
  refine ⟨Int.natCast_nonneg _, by rw [List.length_map]; omega, ?_⟩
  rw [Int.toNat_natCast, show (own.map natD).set one (D.int ((own.getD one 0 ^^^ own.getD other 0 : Nat) : Int)) = (xorAt own one other).map natD from by unfold xorAt; rw [List.map_set], show (put.map natD).set one (D.int ((put.getD one 0 ^^^ put.getD other 0 : Nat) : Int)) = (xorAt put one other).map natD from by unfold xorAt; rw [List.map_set]]
  show Db _ [.ow (.lst ((xorAt own one other).map natD)), .ow (.lst ((xorAt put one other).map natD)), .sh (natD one), .sh (natD other), .no] _ _
  refine Db.fz 0 rfl ?_
  refine Db.fz 1 rfl ?_
  repeat walk_at "d"
  refine De.lc [("row", 4)] .no (Tgt.name 4 (fun _ => scMixed.nd)) (fun _ => blkOk_by (N := ["own", "put", "one", "other", "row"]) (sc := (defScope sMixed)) (by decide +kernel)) (fun _ => scMixed.nd) ?_
  refine Di.seq ?_
  repeat walk_at "d"
  refine ⟨by unfold xorAt; rw [List.length_map, List.length_set, sizeLine_eq]; omega, lc_mapG natD (fun r => natD (mixRow one other r)) (xorAt own one other) ?_ fun r hr Q' hq' => ?_⟩
  rotate_left
  · repeat walk_at "d"
    refine shlN 1 (bit2 _ _) (by omega) ?_
    repeat walk_at "d"
    exact hq'
  repeat walk_at "d"
  refine ⟨by rw [sizeLine_eq]; exact Nat.le_of_ble_eq_true rfl, ?_⟩
  unfold natsL at hq
  rw [List.map_map] at hq
  exact hq
abbrev sToldBy : Stmt := topS 51
abbrev NToldBy : List Str := ["own", "shown", "found", "columns", "at", "column"]
theorem scToldBy : FnScope NToldBy ["own", "shown"] (defScope sToldBy) := ⟨rfl, rfl, rfl, by decide +kernel, rfl, by decide +kernel, by decide +kernel⟩
def stepT (cols : List Nat) (s : Nat) : Nat := ((List.range cols.length).map fun p => oddN (cols.getD p 0 &&& s) * 2 ^ p).sum
def itT (cols : List Nat) (s : Nat) : Nat → Nat
  | 0 => s
  | k + 1 => stepT cols (itT cols s k)
def orbit (cols : List Nat) (s n : Nat) : List Nat := (List.range n).map (itT cols s)
def toldAt (cols : List Nat) (s n : Nat) : Nat := redN (baseOf (orbit cols s n)) (itT cols s n)
def spToldBy : DSpec := fun ds Q => ∃ (own : List Nat) (s n : Nat), ds = [natsL own, natD s] ∧ own.length ≤ 100 ∧ n ≤ 1000 ∧ (∀ i, i < n → toldAt (turned own own.length) s i ≠ 0) ∧ toldAt (turned own own.length) s n = 0 ∧ Q (natsL (baseOf (orbit (turned own own.length) s n)))
theorem oddN_lt (n : Nat) : oddN n < 2 ^ 1 := by
  induction n using Nat.strongRecOn with
  | _ n ih =>
    rw [oddN]
    split
    · decide
    · refine Nat.xor_lt_two_pow (Nat.mod_lt _ (by decide)) (ih _ (Nat.div_lt_self (by omega) (by decide)))
theorem ok_told_by {f : Addr} {fd : FuncData} {x qual : Str} (F : Fun G.K x qual sToldBy f fd) (cT : Callee G "_law_turned" spTurned 1) (cB : Callee G "_law_base" spBase 1) (cI : Callee G "_law_is_in" spIsIn 1) (cO : Callee G "_law_odd" spOdd 1) : FnOk G.P G.w G.K G.mg G.base CX0 2 f fd ["own", "shown"] (spD G.K spToldBy) := by
  refine defD F scToldBy (fun ds Q h => by obtain ⟨_, _, _, rfl, _⟩ := h; rfl) (fun ds Q h => ?_)
  obtain ⟨own, s, n, rfl, hl, hn, hne, he, hq⟩ := h
  repeat walk_at "d"
  refine Ds.par2 2 3 (fun _ => scToldBy.nd) (Dl.lst ?_)
  repeat walk_at "d"
  refine ⟨Nat.zero_le _, Dl.sh ?_⟩
  repeat walk_at "d"
  refine De.call cT ?_
  repeat walk_at "d"
  refine ⟨own, own.length, rfl, by omega, by omega, ?_⟩
  have cl : (turned own own.length).length = own.length := by unfold turned; rw [List.length_map, List.length_range]
  generalize turned own own.length = cols at *
  repeat walk_at "d"
  refine Ds.while_ (fun m ρ => ∃ i s4 s5, m = n - i ∧ i ≤ n ∧ ρ = [.sh (natsL own), .sh (natD (itT cols s i)), .ow (.lst ((orbit cols s i).map natD)), .sh (natsL cols), s4, s5]) ⟨n, 0, _, _, rfl, Nat.zero_le _, rfl⟩ fun m ρ h => ?_
  obtain ⟨i, s4, s5, rfl, hi, rfl⟩ := h
  have ol : (orbit cols s i).length = i := by unfold orbit; rw [List.length_map, List.length_range]
  refine Dt.bw 2 rfl ?_
  repeat walk_at "d"
  refine De.call cI ?_
  repeat walk_at "d"
  refine De.call cB ?_
  repeat walk_at "d"
  refine ⟨_, rfl, by rw [ol]; omega, ?_⟩
  repeat walk_at "d"
  refine ⟨_, _, rfl, ?_⟩
  have eT : decide (redN (baseOf (orbit cols s i)) (itT cols s i) = 0) = decide (toldAt cols s i = 0) := rfl
  rw [eT]
  refine ⟨fun c => ?_, fun c => ?_⟩
  · have c : ¬ toldAt cols s i = 0 := by simpa using c
    have hin : i < n := by
      apply Nat.lt_of_le_of_ne hi
      intro z
      rw [z] at c
      exact c he
    repeat walk_at "d"
    refine Ds.append 2 rfl (by rw [List.length_map, ol, sizeLine_eq]; omega) ?_
    repeat walk_at "d"
    refine Dl.sh ?_
    repeat walk_at "d"
    refine De.lc [("at", 4), ("column", 5)] .no (Tgt.two 4 5 (fun _ => scToldBy.nd)) (fun _ => blkOk_by (N := ["own", "shown", "found", "columns", "at", "column"]) (sc := (defScope sToldBy)) (by decide +kernel)) (fun _ => scToldBy.nd) ?_
    repeat walk_at "d"
    refine ⟨by rw [enumD_len, List.length_map, sizeLine_eq]; omega, lc_enum (fun p => natD (oddN (cols.getD p 0 &&& itT cols s i) * 2 ^ p)) _ ?_ fun p d hd Q2 hq2 => ?_⟩
    rotate_left
    · have hp := (List.getElem?_eq_some_iff.mp hd).1
      rw [List.length_map] at hp
      rw [getD_natL hd]
      repeat walk_at "d"
      refine De.call cO ?_
      repeat walk_at "d"
      refine ⟨_, rfl, ?_⟩
      repeat walk_at "d"
      refine shlN 1 (oddN_lt _) (by omega) ?_
      exact hq2
    repeat walk_at "d"
    rw [List.length_map, show (List.range cols.length).map (fun p => natD (oddN (cols.getD p 0 &&& itT cols s i) * 2 ^ p)) = ((List.range cols.length).map fun p => oddN (cols.getD p 0 &&& itT cols s i) * 2 ^ p).map natD from by rw [List.map_map]; rfl]
    refine sumN ?_
    repeat walk_at "d"
    refine ⟨n - (i + 1), by omega, i + 1, s4, s5, rfl, hin, ?_⟩
    unfold orbit
    rw [List.range_succ, List.map_append, List.map_append]
    rfl
  · have c : toldAt cols s i = 0 := by simpa using c
    have hin : i = n := by
      apply Nat.le_antisymm hi
      apply Nat.le_of_not_lt
      intro z
      exact hne i z c
    subst hin
    refine Db.fz 2 rfl ?_
    repeat walk_at "d"
    refine De.call cB ?_
    repeat walk_at "d"
    exact ⟨_, rfl, by rw [ol]; omega, hq⟩
end K13
set_option Elab.async false
set_option linter.all false
set_option maxRecDepth 100000
set_option maxHeartbeats 4000000
set_option pp.maxSteps 300
namespace K13
open PySem PySem.Spec PyProof.Rows L2 DL
local macro_rules | `(tactic| walk_at "d") => `(tactic| (first
  | with_reducible refine addN ?_ | with_reducible refine subN (by omega) ?_ | with_reducible refine mulN (by first | exact .inl (by decide) | exact .inr (by decide) | omega) ?_ | with_reducible refine andN ?_ | with_reducible refine orN ?_ | with_reducible refine xorN ?_
  | with_reducible refine modN (by first | decide | omega) ?_ | with_reducible refine fdivN (by first | decide | omega) (by first | decide | omega) ?_ | with_reducible refine shrN ?_ | with_reducible refine shl1 (by omega) ?_
  | with_reducible refine ltN ?_ | with_reducible refine leN ?_ | with_reducible refine gtN ?_ | with_reducible refine geN ?_ | with_reducible refine eqN ?_ | with_reducible refine neN ?_ | with_reducible refine absN ?_ | with_reducible refine minN ?_ | with_reducible refine intB ?_
  | with_reducible refine ixL (by with_unfolding_all rfl) ?_ | with_reducible refine ixT (by with_unfolding_all rfl) ?_
  | with_reducible refine rngN (by first | omega | decide) ?_
  | with_reducible refine lenTm ?_ | with_reducible refine lenLm ?_ | with_reducible refine lenT ?_ | with_reducible refine lenL ?_ | with_reducible refine tupL ?_ | with_reducible refine tupT ?_ | with_reducible refine lstL ?_ | with_reducible refine lstT ?_ | with_reducible refine itmL ?_ | with_reducible refine itmT ?_ | with_reducible refine enmL ?_ | with_reducible refine enmT ?_ | with_reducible refine eqS ?_ | with_reducible refine neS ?_ | with_reducible refine revL ?_
  | ((with_reducible refine idDb ?_); first | refine Db.one ?_ | refine Db.cons ?_ | refine Db.nil ?_)
  | ((with_reducible refine idDs ?_); first | refine Ds.ret ?_ | refine Ds.if_ ?_ | refine Ds.set' 0 ?_ | refine Ds.set' 1 ?_ | refine Ds.set' 2 ?_ | refine Ds.set' 3 ?_ | refine Ds.set' 4 ?_ | refine Ds.set' 5 ?_ | refine Ds.set' 6 ?_ | refine Ds.set' 7 ?_ | refine Ds.set' 8 ?_ | refine Ds.set' 9 ?_ | refine Ds.set' 10 ?_ | refine Ds.set' 11 ?_ | refine Ds.set' 12 ?_ | refine Ds.set' 13 ?_)
  | ((with_reducible refine idDe ?_); first
    | refine De.name 0 rfl ?_ | refine De.name 1 rfl ?_ | refine De.name 2 rfl ?_ | refine De.name 3 rfl ?_ | refine De.name 4 rfl ?_ | refine De.name 5 rfl ?_ | refine De.name 6 rfl ?_ | refine De.name 7 rfl ?_ | refine De.name 8 rfl ?_ | refine De.name 9 rfl ?_ | refine De.name 10 rfl ?_ | refine De.name 11 rfl ?_ | refine De.name 12 rfl ?_ | refine De.name 13 rfl ?_
    | refine De.nat (n := 0) ?_ | refine De.nat (n := 1) ?_ | refine De.nat (n := 2) ?_ | refine De.nat ?_ | refine De.str ?_ | refine De.bl ?_ | refine De.non ?_
    | refine De.add ?_ | refine De.sub ?_ | refine De.mul ?_ | refine De.shl ?_ | refine De.shr ?_ | refine De.band ?_ | refine De.bor ?_ | refine De.bxor ?_ | refine De.mod ?_ | refine De.fdiv ?_ | refine De.pow ?_
    | refine De.eq ?_ | refine De.ne ?_ | refine De.lt ?_ | refine De.le ?_ | refine De.gt ?_ | refine De.ge ?_
    | refine De.chLL ?_ | refine De.chLl ?_
    | refine De.and1 ?_ | refine De.and ?_ | refine De.or ?_ | refine De.not ?_ | refine De.ite ?_
    | refine De.tup ?_ | refine De.lst ?_
    | refine De.rev ?_ | refine De.slLo ?_ | refine De.slHi ?_ | refine De.ix ?_ | refine De.fld ?_
    | refine De.isi (fun _ => Txt.isinstance) ?_ | refine De.len (fun _ => Txt.len) ?_ | refine De.toTup (fun _ => Txt.tuple) ?_ | refine De.toLst (fun _ => Txt.list) ?_ | refine De.toInt (fun _ => Txt.int) ?_ | refine De.allB (fun _ => Txt.all) ?_ | refine De.sum (fun _ => Txt.sum) ?_
    | refine De.min2 (fun _ => Txt.min) ?_ | refine De.abs (fun _ => Txt.abs) ?_ | refine De.sortI (fun _ => Txt.sorted) ?_
    | refine bcls (fun _ => Txt.int) boot_int ?_ | refine bcls (fun _ => Txt.bool) boot_bool ?_ | refine bcls (fun _ => Txt.tuple) boot_tuple ?_ | refine bcls (fun _ => Txt.str) boot_str ?_
    | refine ocls (fun _ => Txt.gS) ?_
    | refine gnat (fun _ => Txt.MOST_LEAVES) ?_ | refine gnat (fun _ => Txt.MOST_GATES) ?_ | refine gnat (fun _ => Txt.MOST_HELD) ?_ | refine gnat (fun _ => Txt.MOST_FREE) ?_ | refine gnat (fun _ => Txt.MOST_LAID) ?_ | refine gnat (fun _ => Txt.MOST_KIN) ?_)
  | ((with_reducible refine idDt ?_); first
    | refine Dt.eq ?_ | refine Dt.ne ?_ | refine Dt.lt ?_ | refine Dt.le ?_ | refine Dt.gt ?_ | refine Dt.ge ?_
    | refine Dt.not ?_ | refine Dt.or2 ?_ | refine Dt.and2 ?_ | refine Dt.or3 ?_ | refine Dt.truthB ?_ | refine Dt.val ?_)
  | ((with_reducible refine idDa ?_); first | refine Da.nil ?_ | refine Da.cons ?_)
  | ((with_reducible refine idDi ?_); first | refine Di.range1 (fun _ => Txt.range) ?_ | refine Di.range2 (fun _ => Txt.range) ?_ | refine Di.enum (fun _ => Txt.enumerate) ?_)
  | refine fun _ => ⟨Txt.cS.cl, Txt.nS _ (by decide), _, rfl, ?_⟩ | refine fun _ => ⟨Txt.cM.cl, Txt.nM _ (by decide), _, rfl, ?_⟩
  | refine fun _ => isi_int rfl ?_ | refine fun _ => isi_bool rfl ?_ | refine fun _ => isi_tuple rfl ?_ | refine fun _ => isi_str rfl ?_))
variable {G : Glo} [Txt G]
/-! ### numbered -/
def seen (ks : List NK) : List NK := ks.foldl (fun acc k => if k ∈ acc then acc else acc ++ [k]) []
theorem seen_snoc (ks : List NK) (k : NK) : seen (ks ++ [k]) = if k ∈ seen ks then seen ks else seen ks ++ [k] := by
  unfold seen
  rw [List.foldl_append]
  rfl
theorem mem_seen {ks : List NK} : ∀ {k : NK}, k ∈ seen ks ↔ k ∈ ks := by
  suffices h : ∀ (ks acc : List NK) (k : NK), k ∈ ks.foldl (fun acc k => if k ∈ acc then acc else acc ++ [k]) acc ↔ k ∈ acc ∨ k ∈ ks by
    intro k
    have := h ks [] k
    simpa [seen] using this
  intro ks
  induction ks with
  | nil => intro acc k; simp
  | cons x ks ih =>
    intro acc k
    rw [List.foldl_cons, ih]
    split
    · rename_i hx
      constructor
      · rintro (h | h)
        · exact .inl h
        · exact .inr (List.mem_cons_of_mem _ h)
      · rintro (h | h)
        · exact .inl h
        · rcases List.mem_cons.mp h with rfl | h
          · exact .inl hx
          · exact .inr h
    · rw [List.mem_append, List.mem_singleton, List.mem_cons]
      constructor
      · rintro ((h | h) | h)
        · exact .inl h
        · exact .inr (.inl h)
        · exact .inr (.inr h)
      · rintro (h | h | h)
        · exact .inl (.inl h)
        · exact .inl (.inr h)
        · exact .inr h
theorem seen_len (ks : List NK) : (seen ks).length ≤ ks.length := by
  suffices h : ∀ (ks acc : List NK), (ks.foldl (fun acc k => if k ∈ acc then acc else acc ++ [k]) acc).length ≤ acc.length + ks.length by
    have := h ks []
    simpa [seen] using this
  intro ks
  induction ks with
  | nil => intro acc; exact Nat.le_refl _
  | cons x ks ih =>
    intro acc
    rw [List.foldl_cons, List.length_cons]
    have h := ih (if x ∈ acc then acc else acc ++ [x])
    have h2 : (if x ∈ acc then acc else acc ++ [x]).length ≤ acc.length + 1 := by
      split
      · exact Nat.le_succ _
      · rw [List.length_append]; exact Nat.le_refl _
    omega
def Known (kvs : List (D × D)) (acc : List NK) : Prop := kvs.length = acc.length ∧ ∀ k, lookD kvs k = if k ∈ acc then some (natD (acc.idxOf k)) else none
theorem lookD_snoc {kvs : List (D × D)} {key v : D} (h : lookD kvs key.nk = none) (k : NK) : lookD (kvs ++ [(key, v)]) k = if k = key.nk then some v else lookD kvs k := by
  induction kvs with
  | nil =>
    by_cases e : key.nk = k
    · rw [List.nil_append, lookD_pos e, if_pos e.symm]
    · rw [List.nil_append, lookD_neg e, if_neg (fun z => e z.symm)]
  | cons p r ih =>
    by_cases e0 : p.1.nk = key.nk
    · rw [lookD_pos e0] at h
      cases h
    · rw [lookD_neg e0] at h
      rw [List.cons_append]
      by_cases e : p.1.nk = k
      · rw [lookD_pos e, lookD_pos e, if_neg (fun z => e0 (e.trans z))]
      · rw [lookD_neg e, lookD_neg e, ih h]
theorem Known.step {kvs : List (D × D)} {acc : List NK} {key : D} (h : Known kvs acc) (hn : key.nk ∉ acc) : Known (putD kvs key (natD kvs.length)) (acc ++ [key.nk]) := by
  have e : lookD kvs key.nk = none := by rw [h.2, if_neg hn]
  unfold putD
  rw [e]
  show Known (kvs ++ [(key, natD kvs.length)]) _
  refine ⟨by rw [List.length_append, List.length_append, h.1]; rfl, fun k => ?_⟩
  rw [lookD_snoc e]
  by_cases ek : k = key.nk
  · subst ek
    rw [if_pos rfl, if_pos (List.mem_append_right _ (List.mem_singleton.mpr rfl)), List.idxOf_append, if_neg hn, h.1]
    simp
  · rw [if_neg ek, h.2]
    by_cases hk : k ∈ acc
    · rw [if_pos hk, if_pos (List.mem_append_left _ hk), List.idxOf_append, if_pos hk]
    · rw [if_neg hk, if_neg]
      intro z
      rcases List.mem_append.mp z with z | z
      · exact hk z
      · exact ek (List.mem_singleton.mp z)
abbrev sNumbered : Stmt := topS 31
abbrev NNumbered : List Str := ["keys", "known", "key"]
theorem scNumbered : FnScope NNumbered ["keys"] (defScope sNumbered) := ⟨rfl, rfl, rfl, by decide +kernel, rfl, by decide +kernel, by decide +kernel⟩
def marksOf (keys : List D) : List Nat := keys.map fun k => (seen (keys.map D.nk)).idxOf k.nk
def manyOf (keys : List D) : Nat := (seen (keys.map D.nk)).length
def spNumbered (G : Glo) : DSpec := fun ds Q => ∃ (w : Option World) (keys : List D), (w = none ∨ w = some G.w) ∧ ds = [.lst keys] ∧ keys.length ≤ 100000 ∧ (∀ k ∈ keys, keyFor w k) ∧ Q (.tup [natsL (marksOf keys), natD (manyOf keys)])
theorem ok_numbered {f : Addr} {fd : FuncData} {x qual : Str} (F : Fun G.K x qual sNumbered f fd) : FnOk G.P G.w G.K G.mg G.base CX0 1 f fd ["keys"] (spD G.K (spNumbered G)) := by
  refine defD F scNumbered (fun ds Q h => by obtain ⟨w, keys, _, rfl, _⟩ := h; rfl) (fun ds Q h => ?_)
  obtain ⟨w, keys, hw, rfl, hl, hk, hq⟩ := h
  have hwo : ∀ i, WOk w ((fam G NNumbered qual (defScope sNumbered) 0).cx i) := fun i => by
    rcases hw with rfl | rfl
    · exact True.intro
    · rfl
  repeat walk_at "d"
  refine Dl.dic w hwo ?_
  repeat walk_at "d"
  refine Ds.for_ (Tgt.name 2 (fun _ => scNumbered.nd)) ?_
  refine Di.seq ?_
  repeat walk_at "d"
  refine for_at (fun i ρ => ∃ kvs s, ρ = [.sh (.lst keys), .ow (.dic w kvs), s] ∧ Known kvs (seen ((keys.take i).map D.nk))) ⟨[], _, rfl, rfl, fun k => rfl⟩ (fun i d ρ hd h => ⟨_, rfl, ?_⟩) fun ρ h => ?_
  · obtain ⟨kvs, s, rfl, kn⟩ := h
    have hi := (List.getElem?_eq_some_iff.mp hd).1
    have hdm : d ∈ keys := List.mem_of_getElem? hd
    have et : (keys.take (i + 1)).map D.nk = (keys.take i).map D.nk ++ [d.nk] := by
      rw [List.take_add_one, hd, List.map_append]
      rfl
    have sl : (seen ((keys.take i).map D.nk)).length ≤ 100000 := by
      refine Nat.le_trans (seen_len _) ?_
      rw [List.length_map, List.length_take]
      omega
    rw [et, seen_snoc]
    refine Db.one (Ds.if_ (Dt.dnotin 1 rfl hwo ?_))
    repeat walk_at "d"
    refine ⟨hk d hdm, ?_⟩
    rw [kn.2]
    by_cases hm : d.nk ∈ seen ((keys.take i).map D.nk)
    · rw [if_pos hm, if_pos hm]
      refine ⟨fun z => (nomatch z), fun _ => ?_⟩
      repeat walk_at "d"
      exact ⟨kvs, _, rfl, kn⟩
    · rw [if_neg hm, if_neg hm]
      refine ⟨fun _ => ?_, fun z => (nomatch z)⟩
      refine Db.one (Ds.dput 1 rfl hwo ?_)
      refine De.dlen 1 rfl hwo (fun _ => Txt.len) ?_
      repeat walk_at "d"
      refine ⟨hk d hdm, by rw [kn.1, sizeLine_eq]; omega, putD kvs d (natD kvs.length), _, rfl, kn.step hm⟩
  · obtain ⟨kvs, s, rfl, kn⟩ := h
    rw [List.take_length] at kn
    repeat walk_at "d"
    refine De.lc [("key", 2)] .no (Tgt.name 2 (fun _ => scNumbered.nd)) (fun _ => blkOk_by (N := ["keys", "known", "key"]) (sc := (defScope sNumbered)) (by decide +kernel)) (fun _ => scNumbered.nd) ?_
    refine Di.seq ?_
    repeat walk_at "d"
    refine ⟨by rw [sizeLine_eq]; omega, lc_map (fun k => natD ((seen (keys.map D.nk)).idxOf k.nk)) keys ?_ fun k hkm Q' hq' => ?_⟩
    rotate_left
    · refine De.dget 1 rfl (fun i => hwo i.1) ?_
      repeat walk_at "d"
      refine ⟨hk k hkm, _, ?_, hq'⟩
      rw [kn.2, if_pos (mem_seen.mpr (List.mem_map_of_mem hkm))]
    refine Da.cons (De.dlen 1 rfl hwo (fun _ => Txt.len) ?_)
    repeat walk_at "d"
    refine ⟨by rw [sizeLine_eq]; exact Nat.le_of_ble_eq_true rfl, ?_⟩
    rw [kn.1]
    unfold natsL marksOf at hq
    rw [List.map_map] at hq
    exact hq
end K13
set_option Elab.async false
set_option linter.all false
set_option maxRecDepth 100000
set_option maxHeartbeats 4000000
set_option pp.maxSteps 300
namespace K13
open PySem PySem.Spec PyProof.Rows L2 DL
local macro_rules | `(tactic| walk_at "d") => `(tactic| (first
  | with_reducible refine addN ?_ | with_reducible refine subN (by omega) ?_ | with_reducible refine mulN (by first | exact .inl (by decide) | exact .inr (by decide) | omega) ?_ | with_reducible refine andN ?_ | with_reducible refine orN ?_ | with_reducible refine xorN ?_
  | with_reducible refine modN (by first | decide | omega) ?_ | with_reducible refine fdivN (by first | decide | omega) (by first | decide | omega) ?_ | with_reducible refine shrN ?_ | with_reducible refine shl1 (by omega) ?_
  | with_reducible refine ltN ?_ | with_reducible refine leN ?_ | with_reducible refine gtN ?_ | with_reducible refine geN ?_ | with_reducible refine eqN ?_ | with_reducible refine neN ?_ | with_reducible refine absN ?_ | with_reducible refine minN ?_ | with_reducible refine intB ?_
  | with_reducible refine ixL (by with_unfolding_all rfl) ?_ | with_reducible refine ixT (by with_unfolding_all rfl) ?_
  | with_reducible refine rngN (by first | omega | decide) ?_
  | with_reducible refine lenTm ?_ | with_reducible refine lenLm ?_ | with_reducible refine lenT ?_ | with_reducible refine lenL ?_ | with_reducible refine tupL ?_ | with_reducible refine tupT ?_ | with_reducible refine lstL ?_ | with_reducible refine lstT ?_ | with_reducible refine itmL ?_ | with_reducible refine itmT ?_ | with_reducible refine enmL ?_ | with_reducible refine enmT ?_ | with_reducible refine eqS ?_ | with_reducible refine neS ?_ | with_reducible refine revL ?_
  | ((with_reducible refine idDb ?_); first | refine Db.one ?_ | refine Db.cons ?_ | refine Db.nil ?_)
  | ((with_reducible refine idDs ?_); first | refine Ds.ret ?_ | refine Ds.if_ ?_ | refine Ds.set' 0 ?_ | refine Ds.set' 1 ?_ | refine Ds.set' 2 ?_ | refine Ds.set' 3 ?_ | refine Ds.set' 4 ?_ | refine Ds.set' 5 ?_ | refine Ds.set' 6 ?_ | refine Ds.set' 7 ?_ | refine Ds.set' 8 ?_ | refine Ds.set' 9 ?_ | refine Ds.set' 10 ?_ | refine Ds.set' 11 ?_ | refine Ds.set' 12 ?_ | refine Ds.set' 13 ?_)
  | ((with_reducible refine idDe ?_); first
    | refine De.name 0 rfl ?_ | refine De.name 1 rfl ?_ | refine De.name 2 rfl ?_ | refine De.name 3 rfl ?_ | refine De.name 4 rfl ?_ | refine De.name 5 rfl ?_ | refine De.name 6 rfl ?_ | refine De.name 7 rfl ?_ | refine De.name 8 rfl ?_ | refine De.name 9 rfl ?_ | refine De.name 10 rfl ?_ | refine De.name 11 rfl ?_ | refine De.name 12 rfl ?_ | refine De.name 13 rfl ?_
    | refine De.nat (n := 0) ?_ | refine De.nat (n := 1) ?_ | refine De.nat (n := 2) ?_ | refine De.nat ?_ | refine De.str ?_ | refine De.bl ?_ | refine De.non ?_
    | refine De.add ?_ | refine De.sub ?_ | refine De.mul ?_ | refine De.shl ?_ | refine De.shr ?_ | refine De.band ?_ | refine De.bor ?_ | refine De.bxor ?_ | refine De.mod ?_ | refine De.fdiv ?_ | refine De.pow ?_
    | refine De.eq ?_ | refine De.ne ?_ | refine De.lt ?_ | refine De.le ?_ | refine De.gt ?_ | refine De.ge ?_
    | refine De.chLL ?_ | refine De.chLl ?_
    | refine De.and1 ?_ | refine De.and ?_ | refine De.or ?_ | refine De.not ?_ | refine De.ite ?_
    | refine De.tup ?_ | refine De.lst ?_
    | refine De.rev ?_ | refine De.slLo ?_ | refine De.slHi ?_ | refine De.ix ?_ | refine De.fld ?_
    | refine De.isi (fun _ => Txt.isinstance) ?_ | refine De.len (fun _ => Txt.len) ?_ | refine De.toTup (fun _ => Txt.tuple) ?_ | refine De.toLst (fun _ => Txt.list) ?_ | refine De.toInt (fun _ => Txt.int) ?_ | refine De.allB (fun _ => Txt.all) ?_ | refine De.sum (fun _ => Txt.sum) ?_
    | refine De.min2 (fun _ => Txt.min) ?_ | refine De.abs (fun _ => Txt.abs) ?_ | refine De.sortI (fun _ => Txt.sorted) ?_
    | refine bcls (fun _ => Txt.int) boot_int ?_ | refine bcls (fun _ => Txt.bool) boot_bool ?_ | refine bcls (fun _ => Txt.tuple) boot_tuple ?_ | refine bcls (fun _ => Txt.str) boot_str ?_
    | refine ocls (fun _ => Txt.gS) ?_
    | refine gnat (fun _ => Txt.MOST_LEAVES) ?_ | refine gnat (fun _ => Txt.MOST_GATES) ?_ | refine gnat (fun _ => Txt.MOST_HELD) ?_ | refine gnat (fun _ => Txt.MOST_FREE) ?_ | refine gnat (fun _ => Txt.MOST_LAID) ?_ | refine gnat (fun _ => Txt.MOST_KIN) ?_)
  | ((with_reducible refine idDt ?_); first
    | refine Dt.eq ?_ | refine Dt.ne ?_ | refine Dt.lt ?_ | refine Dt.le ?_ | refine Dt.gt ?_ | refine Dt.ge ?_
    | refine Dt.not ?_ | refine Dt.or2 ?_ | refine Dt.and2 ?_ | refine Dt.or3 ?_ | refine Dt.truthB ?_ | refine Dt.val ?_)
  | ((with_reducible refine idDa ?_); first | refine Da.nil ?_ | refine Da.cons ?_)
  | ((with_reducible refine idDi ?_); first | refine Di.range1 (fun _ => Txt.range) ?_ | refine Di.range2 (fun _ => Txt.range) ?_ | refine Di.enum (fun _ => Txt.enumerate) ?_)
  | refine fun _ => ⟨Txt.cS.cl, Txt.nS _ (by decide), _, rfl, ?_⟩ | refine fun _ => ⟨Txt.cM.cl, Txt.nM _ (by decide), _, rfl, ?_⟩
  | refine fun _ => isi_int rfl ?_ | refine fun _ => isi_bool rfl ?_ | refine fun _ => isi_tuple rfl ?_ | refine fun _ => isi_str rfl ?_))
variable {G : Glo} [Txt G]
/-! ### class_numbers -/
theorem lc_mapT {F : Fam} {ρw : Rho} {el : Rho → DQ → Prop} {t : TgD} {α : Type} (g f : α → D) (up : α → Rho) (l : List α) {Q : List D → Prop} (hs : ∀ d ∈ l, setN t (g d) ρw = some (up d)) (q : Q (l.map f)) (h : ∀ d ∈ l, ∀ Q' : DQ, Q' (f d) → el (up d) Q') : lcD t ρw (Ifs.no.D F) el (l.map g) Q := by
  induction l generalizing Q with
  | nil => exact q
  | cons d ds ih => exact ⟨_, hs d List.mem_cons_self, fun _ => h d List.mem_cons_self _ (ih (Q := fun ys => Q (f d :: ys)) (fun x hx => hs x (List.mem_cons_of_mem _ hx)) q fun x hx => h x (List.mem_cons_of_mem _ hx)), fun z => nomatch z⟩
abbrev rowD (r : List (Nat × Nat)) : D := .lst (r.map pairD)
abbrev Graph := List (List (Nat × Nat))
def keyAt (marks : List Nat) (row : List (Nat × Nat)) (st : Nat) : D := .tup [natD (marks.getD st 0), .tup (row.map fun p => .tup [natD p.1, natD (marks.getD p.2 0)])]
def keysOf (marks : List Nat) (g : Graph) : List D := (List.range g.length).map fun st => keyAt marks (g.getD st []) st
def keys0 (T n : Nat) : List D := (List.range n).map fun st => natD (T >>> st &&& 1)
def marksAt (T : Nat) (g : Graph) : Nat → List Nat
  | 0 => marksOf (keys0 T g.length)
  | k + 1 => marksOf (keysOf (marksAt T g k) g)
def manyAt (T : Nat) (g : Graph) : Nat → Nat
  | 0 => manyOf (keys0 T g.length)
  | k + 1 => manyOf (keysOf (marksAt T g k) g)
theorem marksOf_len (keys : List D) : (marksOf keys).length = keys.length := by
  unfold marksOf
  rw [List.length_map]
theorem keysOf_len (marks : List Nat) (g : Graph) : (keysOf marks g).length = g.length := by
  unfold keysOf
  rw [List.length_map, List.length_range]
theorem keys0_len (T n : Nat) : (keys0 T n).length = n := by
  unfold keys0
  rw [List.length_map, List.length_range]
theorem marksAt_len (T : Nat) (g : Graph) : ∀ k, (marksAt T g k).length = g.length
  | 0 => by unfold marksAt; rw [marksOf_len, keys0_len]
  | k + 1 => by unfold marksAt; rw [marksOf_len, keysOf_len]
theorem nks_map {α : Type} (f : α → D) : ∀ l : List α, nks (l.map f) = l.map fun x => (f x).nk
  | [] => rfl
  | a :: l => by
    rw [List.map_cons, List.map_cons, ← nks_map f l]
    rfl
theorem allNk_map {α : Type} (f : α → D) : ∀ l : List α, (∀ x ∈ l, (f x).isNk = true) → D.isNk.allNk (l.map f) = true
  | [], _ => rfl
  | a :: l, h => by
    rw [List.map_cons]
    show ((f a).isNk && D.isNk.allNk (l.map f)) = true
    rw [h a List.mem_cons_self, allNk_map f l fun x hx => h x (List.mem_cons_of_mem _ hx)]
    rfl
theorem depthAll_map {α : Type} (f : α → NK) (n : Nat) : ∀ l : List α, (∀ x ∈ l, (f x).depth ≤ n) → NestedKey.depthAll (l.map f) ≤ n
  | [], _ => Nat.zero_le _
  | a :: l, h => by
    rw [List.map_cons]
    show max ((f a).depth) (NestedKey.depthAll (l.map f)) ≤ n
    exact Nat.max_le.mpr ⟨h a List.mem_cons_self, depthAll_map f n l fun x hx => h x (List.mem_cons_of_mem _ hx)⟩
theorem keyAt_ok (marks : List Nat) (row : List (Nat × Nat)) (st : Nat) : (keyAt marks row st).keyT := by
  refine ⟨rfl, ?_, ?_⟩
  · show ((natD (marks.getD st 0)).isNk && (D.isNk.allNk (row.map fun p => .tup [natD p.1, natD (marks.getD p.2 0)]) && true)) = true
    rw [allNk_map _ row fun x _ => rfl]
    rfl
  · show max 0 (max (NestedKey.depthAll (nks (row.map fun p => .tup [natD p.1, natD (marks.getD p.2 0)])) + 1) 0) + 1 ≤ 8
    rw [nks_map]
    have := depthAll_map (fun p : Nat × Nat => (D.tup [natD p.1, natD (marks.getD p.2 0)]).nk) 1 row fun x _ => (by show max 0 (max 0 0) + 1 ≤ 1; decide)
    omega
abbrev sClass : Stmt := topS 32
abbrev NClass : List Str := ["machine", "shown", "graph", "table", "marks", "many", "keys", "stand", "pairs", "more", "move", "later"]
theorem scClass : FnScope NClass ["machine", "shown", "graph"] (defScope sClass) := ⟨rfl, rfl, rfl, by decide +kernel, rfl, by decide +kernel, by decide +kernel⟩
structure GrOk (g : Graph) : Prop where
  len : g.length ≤ 70000
  row : ∀ r ∈ g, r.length ≤ 1000 ∧ ∀ p ∈ r, p.2 < g.length
def spClass (G : Glo) [Txt G] : DSpec := fun ds Q => ∃ (d : D) (m r : Nat) (gs : List Gate) (g : Graph) (k : Nat), ds = [d, sayD (Txt.CS G) m gs r, graphD g] ∧ sayOk m gs r ∧ GrOk g ∧ (∀ i, i < k → manyAt (sayT m gs r) g (i + 1) ≠ manyAt (sayT m gs r) g i) ∧ manyAt (sayT m gs r) g (k + 1) = manyAt (sayT m gs r) g k ∧ Q (natsL (marksAt (sayT m gs r) g (k + 1)))
theorem ok_class {f : Addr} {fd : FuncData} {x qual : Str} (F : Fun G.K x qual sClass f fd) (cT : Callee G "table_of" (spTableOf G) 3) (cN : Callee G "numbered" (spNumbered G) 1) : FnOk G.P G.w G.K G.mg G.base CX0 4 f fd ["machine", "shown", "graph"] (spD G.K (spClass G)) := by
  refine defD F scClass (fun ds Q h => by obtain ⟨_, _, _, _, _, _, rfl, _⟩ := h; rfl) (fun ds Q h => ?_)
  obtain ⟨d0, m, r, gs, g, k, rfl, sok, gok, hne, he, hq⟩ := h
  generalize hT : sayT m gs r = T at *
  have hgl := gok.len
  show Db _ [.sh d0, .sh (sayD (Txt.CS G) m gs r), .sh (.lst (g.map rowD)), .no, .no, .no, .no, .no, .no, .no, .no, .no] _ _
  repeat walk_at "d"
  refine Dl.sh ?_
  refine De.call cT ?_
  repeat walk_at "d"
  refine ⟨m, r, gs, rfl, sok, ?_⟩
  rw [hT]
  repeat walk_at "d"
  refine Ds.unp (Tgt.two 4 5 (fun _ => scClass.nd)) ?_
  refine De.call cN ?_
  repeat walk_at "d"
  refine De.lc [("stand", 7)] .no (Tgt.name 7 (fun _ => scClass.nd)) (fun _ => blkOk_by (N := ["machine", "shown", "graph", "table", "marks", "many", "keys", "stand", "pairs", "more", "move", "later"]) (sc := (defScope sClass)) (by decide +kernel)) (fun _ => scClass.nd) ?_
  repeat walk_at "d"
  refine ⟨by rw [natsD_len, sizeLine_eq]; omega, lc_nats (fun st => natD (T >>> st &&& 1)) g.length ?_ fun st hst Q' hq' => ?_⟩
  rotate_left
  · repeat walk_at "d"
    exact hq'
  repeat walk_at "d"
  refine ⟨none, keys0 T g.length, .inl rfl, rfl, by rw [keys0_len]; omega, fun k hk => ?_, _, rfl, ?_⟩
  · obtain ⟨st, _, rfl⟩ := List.mem_map.mp hk
    exact ⟨_, rfl⟩
  show Db _ [.sh d0, .sh (sayD (Txt.CS G) m gs r), .sh (.lst (g.map rowD)), .sh (natD T), .sh (natsL (marksAt T g 0)), .sh (natD (manyAt T g 0)), .no, .no, .no, .no, .no, .no] _ _
  refine Db.one (Ds.while_ (fun W ρ => ∃ i s6 s7 s8 s9 s10 s11, W = k - i ∧ i ≤ k ∧ ρ = [.sh d0, .sh (sayD (Txt.CS G) m gs r), .sh (.lst (g.map rowD)), .sh (natD T), .sh (natsL (marksAt T g i)), .sh (natD (manyAt T g i)), s6, s7, s8, s9, s10, s11]) ⟨k, 0, _, _, _, _, _, _, rfl, Nat.zero_le _, rfl⟩ fun W ρ h => ?_)
  obtain ⟨i, s6, s7, s8, s9, s10, s11, rfl, hi, rfl⟩ := h
  have ml := marksAt_len T g i
  repeat walk_at "d"
  refine ⟨fun _ => ?_, fun z => nomatch z⟩
  repeat walk_at "d"
  refine Dl.lst ?_
  repeat walk_at "d"
  refine ⟨Nat.zero_le _, ?_⟩
  repeat walk_at "d"
  refine Ds.for_ (Tgt.two 7 8 (fun _ => scClass.nd)) ?_
  repeat walk_at "d"
  refine for_at (fun n ρ => ∃ s7 s8 s10 s11, ρ = [.sh d0, .sh (sayD (Txt.CS G) m gs r), .sh (.lst (g.map rowD)), .sh (natD T), .sh (natsL (marksAt T g i)), .sh (natD (manyAt T g i)), .ow (.lst ((keysOf (marksAt T g i) g).take n)), s7, s8, s9, s10, s11]) ⟨_, _, _, _, rfl⟩ (fun n d ρ hd h => ?_) fun ρ h => ?_
  · obtain ⟨s7, s8, s10, s11, rfl⟩ := h
    obtain ⟨x, hx, rfl⟩ := enumD_get hd
    rw [List.getElem?_map] at hx
    obtain ⟨row, hrow, rfl⟩ : ∃ row, g[n]? = some row ∧ rowD row = x := by
      cases q : g[n]? with
      | none => rw [q] at hx; cases hx
      | some row => rw [q] at hx; exact ⟨row, rfl, Option.some.inj hx⟩
    have hn := (List.getElem?_eq_some_iff.mp hrow).1
    have hgr := gok.row row (List.mem_of_getElem? hrow)
    refine ⟨_, rfl, ?_⟩
    show Db _ ([.sh d0, .sh (sayD (Txt.CS G) m gs r), .sh (.lst (g.map rowD)), .sh (natD T), .sh (natsL (marksAt T g i)), .sh (natD (manyAt T g i)), .ow (.lst ((keysOf (marksAt T g i) g).take n)), .sh (natD n), .sh (.lst (row.map pairD)), s9, s10, s11]) _ _
    refine Db.one (Ds.append 6 rfl (by rw [List.length_take, sizeLine_eq]; omega) ?_)
    repeat walk_at "d"
    refine ixL (getD_nat (by rw [ml]; exact hn)) ?_
    repeat walk_at "d"
    refine De.lc [("move", 10), ("later", 11)] .no (Tgt.two 10 11 (fun _ => scClass.nd)) (fun _ => blkOk_by (N := ["machine", "shown", "graph", "table", "marks", "many", "keys", "stand", "pairs", "more", "move", "later"]) (sc := (defScope sClass)) (by decide +kernel)) (fun _ => scClass.nd) ?_
    refine Di.seq ?_
    repeat walk_at "d"
    refine ⟨by rw [List.length_map, sizeLine_eq]; omega, lc_mapT pairD (fun p => .tup [natD p.1, natD ((marksAt T g i).getD p.2 0)]) _ row (fun p _ => rfl) ?_ fun p hp Q' hq' => ?_⟩
    rotate_left
    · show De _ ([.sh d0, .sh (sayD (Txt.CS G) m gs r), .sh (.lst (g.map rowD)), .sh (natD T), .sh (natsL (marksAt T g i)), .sh (natD (manyAt T g i)), .ow (.lst ((keysOf (marksAt T g i) g).take n)), .sh (natD n), .sh (.lst (row.map pairD)), s9, .sh (natD p.1), .sh (natD p.2)]) _ _
      repeat walk_at "d"
      refine ixL (getD_nat (by rw [ml]; exact hgr.2 p hp)) ?_
      repeat walk_at "d"
      exact ⟨by rw [sizeLine_eq]; exact Nat.le_of_ble_eq_true rfl, hq'⟩
    repeat walk_at "d"
    refine ⟨by rw [sizeLine_eq]; exact Nat.le_of_ble_eq_true rfl, ?_⟩
    have et : (keysOf (marksAt T g i) g).take (n + 1) = (keysOf (marksAt T g i) g).take n ++ [keyAt (marksAt T g i) row n] := by
      rw [List.take_add_one]
      congr 1
      unfold keysOf
      rw [List.getElem?_map, List.getElem?_range hn]
      show [keyAt (marksAt T g i) (g.getD n []) n] = _
      rw [List.getD_eq_getElem?_getD, hrow]
      rfl
    rw [et]
    exact ⟨_, _, _, _, rfl⟩
  · obtain ⟨s7, s8, s10, s11, rfl⟩ := h
    rw [enumD_len, List.length_map, ← keysOf_len (marksAt T g i) g, List.take_length]
    refine Db.fz 6 rfl ?_
    refine Db.cons (Ds.unp (Tgt.two 4 9 (fun _ => scClass.nd)) ?_)
    refine De.call cN ?_
    repeat walk_at "d"
    refine ⟨some G.w, keysOf (marksAt T g i) g, .inr rfl, rfl, by rw [keysOf_len]; omega, fun k hk => ?_, _, rfl, ?_⟩
    · obtain ⟨st, _, rfl⟩ := List.mem_map.mp hk
      exact keyAt_ok _ _ _
    show Db _ [.sh d0, .sh (sayD (Txt.CS G) m gs r), .sh (.lst (g.map rowD)), .sh (natD T), .sh (natsL (marksAt T g (i + 1))), .sh (natD (manyAt T g i)), .sh (.lst (keysOf (marksAt T g i) g)), s7, s8, .sh (natD (manyAt T g (i + 1))), s10, s11] _ _
    repeat walk_at "d"
    refine ⟨fun c => ?_, fun c => ?_⟩
    · have c := of_decide_eq_true c
      have hik : i = k := by
        apply Nat.le_antisymm hi
        apply Nat.le_of_not_lt
        intro z
        exact hne i z c
      subst hik
      repeat walk_at "d"
      exact hq
    · have c := of_decide_eq_false c
      have hik : i < k := by
        apply Nat.lt_of_le_of_ne hi
        intro z
        subst z
        exact c he
      repeat walk_at "d"
      refine Dl.sh ?_
      repeat walk_at "d"
      exact ⟨k - (i + 1), by omega, i + 1, _, _, _, _, _, _, rfl, hik, rfl⟩
end K13
set_option Elab.async false
set_option linter.all false
set_option maxRecDepth 100000
set_option maxHeartbeats 4000000
set_option pp.maxSteps 300
namespace K13
open PySem PySem.Spec PyProof.Rows L2 DL
local macro_rules | `(tactic| walk_at "d") => `(tactic| (first
  | with_reducible refine addN ?_ | with_reducible refine subN (by omega) ?_ | with_reducible refine mulN (by first | exact .inl (by decide) | exact .inr (by decide) | omega) ?_ | with_reducible refine andN ?_ | with_reducible refine orN ?_ | with_reducible refine xorN ?_
  | with_reducible refine modN (by first | decide | omega) ?_ | with_reducible refine fdivN (by first | decide | omega) (by first | decide | omega) ?_ | with_reducible refine shrN ?_ | with_reducible refine shl1 (by omega) ?_
  | with_reducible refine ltN ?_ | with_reducible refine leN ?_ | with_reducible refine gtN ?_ | with_reducible refine geN ?_ | with_reducible refine eqN ?_ | with_reducible refine neN ?_ | with_reducible refine absN ?_ | with_reducible refine minN ?_ | with_reducible refine intB ?_
  | with_reducible refine ixL (by with_unfolding_all rfl) ?_ | with_reducible refine ixT (by with_unfolding_all rfl) ?_
  | with_reducible refine rngN (by first | omega | decide) ?_
  | with_reducible refine lenTm ?_ | with_reducible refine lenLm ?_ | with_reducible refine lenT ?_ | with_reducible refine lenL ?_ | with_reducible refine tupL ?_ | with_reducible refine tupT ?_ | with_reducible refine lstL ?_ | with_reducible refine lstT ?_ | with_reducible refine itmL ?_ | with_reducible refine itmT ?_ | with_reducible refine enmL ?_ | with_reducible refine enmT ?_ | with_reducible refine eqS ?_ | with_reducible refine neS ?_ | with_reducible refine revL ?_
  | ((with_reducible refine idDb ?_); first | refine Db.one ?_ | refine Db.cons ?_ | refine Db.nil ?_)
  | ((with_reducible refine idDs ?_); first | refine Ds.ret ?_ | refine Ds.if_ ?_ | refine Ds.set' 0 ?_ | refine Ds.set' 1 ?_ | refine Ds.set' 2 ?_ | refine Ds.set' 3 ?_ | refine Ds.set' 4 ?_ | refine Ds.set' 5 ?_ | refine Ds.set' 6 ?_ | refine Ds.set' 7 ?_ | refine Ds.set' 8 ?_ | refine Ds.set' 9 ?_ | refine Ds.set' 10 ?_ | refine Ds.set' 11 ?_ | refine Ds.set' 12 ?_ | refine Ds.set' 13 ?_)
  | ((with_reducible refine idDe ?_); first
    | refine De.name 0 rfl ?_ | refine De.name 1 rfl ?_ | refine De.name 2 rfl ?_ | refine De.name 3 rfl ?_ | refine De.name 4 rfl ?_ | refine De.name 5 rfl ?_ | refine De.name 6 rfl ?_ | refine De.name 7 rfl ?_ | refine De.name 8 rfl ?_ | refine De.name 9 rfl ?_ | refine De.name 10 rfl ?_ | refine De.name 11 rfl ?_ | refine De.name 12 rfl ?_ | refine De.name 13 rfl ?_
    | refine De.nat (n := 0) ?_ | refine De.nat (n := 1) ?_ | refine De.nat (n := 2) ?_ | refine De.nat ?_ | refine De.str ?_ | refine De.bl ?_ | refine De.non ?_
    | refine De.add ?_ | refine De.sub ?_ | refine De.mul ?_ | refine De.shl ?_ | refine De.shr ?_ | refine De.band ?_ | refine De.bor ?_ | refine De.bxor ?_ | refine De.mod ?_ | refine De.fdiv ?_ | refine De.pow ?_
    | refine De.eq ?_ | refine De.ne ?_ | refine De.lt ?_ | refine De.le ?_ | refine De.gt ?_ | refine De.ge ?_
    | refine De.chLL ?_ | refine De.chLl ?_
    | refine De.and1 ?_ | refine De.and ?_ | refine De.or ?_ | refine De.not ?_ | refine De.ite ?_
    | refine De.tup ?_ | refine De.lst ?_
    | refine De.rev ?_ | refine De.slLo ?_ | refine De.slHi ?_ | refine De.ix ?_ | refine De.fld ?_
    | refine De.isi (fun _ => Txt.isinstance) ?_ | refine De.len (fun _ => Txt.len) ?_ | refine De.toTup (fun _ => Txt.tuple) ?_ | refine De.toLst (fun _ => Txt.list) ?_ | refine De.toInt (fun _ => Txt.int) ?_ | refine De.allB (fun _ => Txt.all) ?_ | refine De.sum (fun _ => Txt.sum) ?_
    | refine De.min2 (fun _ => Txt.min) ?_ | refine De.abs (fun _ => Txt.abs) ?_ | refine De.sortI (fun _ => Txt.sorted) ?_
    | refine bcls (fun _ => Txt.int) boot_int ?_ | refine bcls (fun _ => Txt.bool) boot_bool ?_ | refine bcls (fun _ => Txt.tuple) boot_tuple ?_ | refine bcls (fun _ => Txt.str) boot_str ?_
    | refine ocls (fun _ => Txt.gS) ?_
    | refine gnat (fun _ => Txt.MOST_LEAVES) ?_ | refine gnat (fun _ => Txt.MOST_GATES) ?_ | refine gnat (fun _ => Txt.MOST_HELD) ?_ | refine gnat (fun _ => Txt.MOST_FREE) ?_ | refine gnat (fun _ => Txt.MOST_LAID) ?_ | refine gnat (fun _ => Txt.MOST_KIN) ?_)
  | ((with_reducible refine idDt ?_); first
    | refine Dt.eq ?_ | refine Dt.ne ?_ | refine Dt.lt ?_ | refine Dt.le ?_ | refine Dt.gt ?_ | refine Dt.ge ?_
    | refine Dt.not ?_ | refine Dt.or2 ?_ | refine Dt.and2 ?_ | refine Dt.or3 ?_ | refine Dt.truthB ?_ | refine Dt.val ?_)
  | ((with_reducible refine idDa ?_); first | refine Da.nil ?_ | refine Da.cons ?_)
  | ((with_reducible refine idDi ?_); first | refine Di.range1 (fun _ => Txt.range) ?_ | refine Di.range2 (fun _ => Txt.range) ?_ | refine Di.enum (fun _ => Txt.enumerate) ?_)
  | refine fun _ => ⟨Txt.cS.cl, Txt.nS _ (by decide), _, rfl, ?_⟩ | refine fun _ => ⟨Txt.cM.cl, Txt.nM _ (by decide), _, rfl, ?_⟩
  | refine fun _ => isi_int rfl ?_ | refine fun _ => isi_bool rfl ?_ | refine fun _ => isi_tuple rfl ?_ | refine fun _ => isi_str rfl ?_))
variable {G : Glo} [Txt G]
/-! ### rows and lots are alike data -/
theorem alike_bools : ∀ a b : List Bool, PySem.W.alikeAll (pys (a.map D.bl)) (pys (b.map D.bl)) = true
  | [], _ => by
    show PySem.W.alikeAll [] _ = true
    rw [PySem.W.alikeAll]
  | _ :: _, [] => by
    show PySem.W.alikeAll (_ :: _) [] = true
    rw [PySem.W.alikeAll]
  | x :: a, y :: b => by
    show PySem.W.alikeAll (.bool x :: pys (a.map D.bl)) (.bool y :: pys (b.map D.bl)) = true
    rw [PySem.W.alikeAll, alike_bools a b, PySem.W.alike]
    rfl
theorem alike_row (a b : List Bool) : PySem.W.alike (boolsD a).py (boolsD b).py = true := by
  show PySem.W.alike (.tuple (pys (a.map D.bl))) (.tuple (pys (b.map D.bl))) = true
  rw [PySem.W.alike]
  exact alike_bools a b
theorem alike_rows : ∀ a b : List (List Bool), PySem.W.alikeAll (pys (a.map boolsD)) (pys (b.map boolsD)) = true
  | [], _ => by
    show PySem.W.alikeAll [] _ = true
    rw [PySem.W.alikeAll]
  | _ :: _, [] => by
    show PySem.W.alikeAll (_ :: _) [] = true
    rw [PySem.W.alikeAll]
  | x :: a, y :: b => by
    show PySem.W.alikeAll ((boolsD x).py :: pys (a.map boolsD)) ((boolsD y).py :: pys (b.map boolsD)) = true
    rw [PySem.W.alikeAll, alike_rows a b, alike_row x y]
    rfl
theorem alike_lot (a b : List (List Bool)) : PySem.W.alike (D.tup (a.map boolsD)).py (D.tup (b.map boolsD)).py = true := by
  show PySem.W.alike (.tuple (pys (a.map boolsD))) (.tuple (pys (b.map boolsD))) = true
  rw [PySem.W.alike]
  exact alike_rows a b
theorem nk_row (a : List Bool) : (boolsD a).isNk = true := allNk_map _ _ fun x _ => rfl
theorem nk_lot (a : List (List Bool)) : (D.tup (a.map boolsD)).isNk = true := allNk_map _ _ fun x _ => nk_row x
theorem depthAll_row : ∀ a : List Bool, PyData.depthAll (pys (a.map D.bl)) ≤ 0
  | [] => Nat.le_refl _
  | x :: a => by
    show max (PyData.depth (.bool x)) (PyData.depthAll (pys (a.map D.bl))) ≤ 0
    exact Nat.max_le.mpr ⟨Nat.le_refl _, depthAll_row a⟩
theorem depth_row (a : List Bool) : (boolsD a).py.depth ≤ 8 := by
  have h := depthAll_row a
  show PyData.depthAll (pys (a.map D.bl)) + 1 ≤ 8
  omega
theorem depthAll_rows : ∀ a : List (List Bool), PyData.depthAll (pys (a.map boolsD)) ≤ 1
  | [] => Nat.zero_le _
  | x :: a => by
    show max (PyData.depthAll (pys (x.map D.bl)) + 1) (PyData.depthAll (pys (a.map boolsD))) ≤ 1
    have h := depthAll_row x
    exact Nat.max_le.mpr ⟨by omega, depthAll_rows a⟩
theorem depth_lot (a : List (List Bool)) : (D.tup (a.map boolsD)).py.depth ≤ 8 := by
  have h := depthAll_rows a
  show PyData.depthAll (pys (a.map boolsD)) + 1 ≤ 8
  omega
end K13
set_option Elab.async false
set_option linter.all false
set_option maxRecDepth 100000
set_option maxHeartbeats 4000000
set_option pp.maxSteps 300
namespace K13
open PySem PySem.Spec PyProof.Rows L2 DL
local macro_rules | `(tactic| walk_at "d") => `(tactic| (first
  | with_reducible refine addN ?_ | with_reducible refine subN (by omega) ?_ | with_reducible refine mulN (by first | exact .inl (by decide) | exact .inr (by decide) | omega) ?_ | with_reducible refine andN ?_ | with_reducible refine orN ?_ | with_reducible refine xorN ?_
  | with_reducible refine modN (by first | decide | omega) ?_ | with_reducible refine fdivN (by first | decide | omega) (by first | decide | omega) ?_ | with_reducible refine shrN ?_ | with_reducible refine shl1 (by omega) ?_
  | with_reducible refine ltN ?_ | with_reducible refine leN ?_ | with_reducible refine gtN ?_ | with_reducible refine geN ?_ | with_reducible refine eqN ?_ | with_reducible refine neN ?_ | with_reducible refine absN ?_ | with_reducible refine minN ?_ | with_reducible refine intB ?_
  | with_reducible refine ixL (by with_unfolding_all rfl) ?_ | with_reducible refine ixT (by with_unfolding_all rfl) ?_
  | with_reducible refine rngN (by first | omega | decide) ?_
  | with_reducible refine lenTm ?_ | with_reducible refine lenLm ?_ | with_reducible refine lenT ?_ | with_reducible refine lenL ?_ | with_reducible refine tupL ?_ | with_reducible refine tupT ?_ | with_reducible refine lstL ?_ | with_reducible refine lstT ?_ | with_reducible refine itmL ?_ | with_reducible refine itmT ?_ | with_reducible refine enmL ?_ | with_reducible refine enmT ?_ | with_reducible refine eqS ?_ | with_reducible refine neS ?_ | with_reducible refine revL ?_
  | ((with_reducible refine idDb ?_); first | refine Db.one ?_ | refine Db.cons ?_ | refine Db.nil ?_)
  | ((with_reducible refine idDs ?_); first | refine Ds.ret ?_ | refine Ds.if_ ?_ | refine Ds.set' 0 ?_ | refine Ds.set' 1 ?_ | refine Ds.set' 2 ?_ | refine Ds.set' 3 ?_ | refine Ds.set' 4 ?_ | refine Ds.set' 5 ?_ | refine Ds.set' 6 ?_ | refine Ds.set' 7 ?_ | refine Ds.set' 8 ?_ | refine Ds.set' 9 ?_ | refine Ds.set' 10 ?_ | refine Ds.set' 11 ?_ | refine Ds.set' 12 ?_ | refine Ds.set' 13 ?_)
  | ((with_reducible refine idDe ?_); first
    | refine De.name 0 rfl ?_ | refine De.name 1 rfl ?_ | refine De.name 2 rfl ?_ | refine De.name 3 rfl ?_ | refine De.name 4 rfl ?_ | refine De.name 5 rfl ?_ | refine De.name 6 rfl ?_ | refine De.name 7 rfl ?_ | refine De.name 8 rfl ?_ | refine De.name 9 rfl ?_ | refine De.name 10 rfl ?_ | refine De.name 11 rfl ?_ | refine De.name 12 rfl ?_ | refine De.name 13 rfl ?_
    | refine De.nat (n := 0) ?_ | refine De.nat (n := 1) ?_ | refine De.nat (n := 2) ?_ | refine De.nat ?_ | refine De.str ?_ | refine De.bl ?_ | refine De.non ?_
    | refine De.add ?_ | refine De.sub ?_ | refine De.mul ?_ | refine De.shl ?_ | refine De.shr ?_ | refine De.band ?_ | refine De.bor ?_ | refine De.bxor ?_ | refine De.mod ?_ | refine De.fdiv ?_ | refine De.pow ?_
    | refine De.eq ?_ | refine De.ne ?_ | refine De.lt ?_ | refine De.le ?_ | refine De.gt ?_ | refine De.ge ?_
    | refine De.chLL ?_ | refine De.chLl ?_
    | refine De.and1 ?_ | refine De.and ?_ | refine De.or ?_ | refine De.not ?_ | refine De.ite ?_
    | refine De.tup ?_ | refine De.lst ?_
    | refine De.rev ?_ | refine De.slLo ?_ | refine De.slHi ?_ | refine De.ix ?_ | refine De.fld ?_
    | refine De.isi (fun _ => Txt.isinstance) ?_ | refine De.len (fun _ => Txt.len) ?_ | refine De.toTup (fun _ => Txt.tuple) ?_ | refine De.toLst (fun _ => Txt.list) ?_ | refine De.toInt (fun _ => Txt.int) ?_ | refine De.allB (fun _ => Txt.all) ?_ | refine De.sum (fun _ => Txt.sum) ?_
    | refine De.min2 (fun _ => Txt.min) ?_ | refine De.abs (fun _ => Txt.abs) ?_ | refine De.sortI (fun _ => Txt.sorted) ?_
    | refine bcls (fun _ => Txt.int) boot_int ?_ | refine bcls (fun _ => Txt.bool) boot_bool ?_ | refine bcls (fun _ => Txt.tuple) boot_tuple ?_ | refine bcls (fun _ => Txt.str) boot_str ?_
    | refine ocls (fun _ => Txt.gS) ?_
    | refine gnat (fun _ => Txt.MOST_LEAVES) ?_ | refine gnat (fun _ => Txt.MOST_GATES) ?_ | refine gnat (fun _ => Txt.MOST_HELD) ?_ | refine gnat (fun _ => Txt.MOST_FREE) ?_ | refine gnat (fun _ => Txt.MOST_LAID) ?_ | refine gnat (fun _ => Txt.MOST_KIN) ?_)
  | ((with_reducible refine idDt ?_); first
    | refine Dt.eq ?_ | refine Dt.ne ?_ | refine Dt.lt ?_ | refine Dt.le ?_ | refine Dt.gt ?_ | refine Dt.ge ?_
    | refine Dt.not ?_ | refine Dt.or2 ?_ | refine Dt.and2 ?_ | refine Dt.or3 ?_ | refine Dt.truthB ?_ | refine Dt.val ?_)
  | ((with_reducible refine idDa ?_); first | refine Da.nil ?_ | refine Da.cons ?_)
  | ((with_reducible refine idDi ?_); first | refine Di.range1 (fun _ => Txt.range) ?_ | refine Di.range2 (fun _ => Txt.range) ?_ | refine Di.enum (fun _ => Txt.enumerate) ?_)
  | refine fun _ => ⟨Txt.cS.cl, Txt.nS _ (by decide), _, rfl, ?_⟩ | refine fun _ => ⟨Txt.cM.cl, Txt.nM _ (by decide), _, rfl, ?_⟩
  | refine fun _ => isi_int rfl ?_ | refine fun _ => isi_bool rfl ?_ | refine fun _ => isi_tuple rfl ?_ | refine fun _ => isi_str rfl ?_))
variable {G : Glo} [Txt G]
/-! ### _law_classes -/
abbrev sClasses : Stmt := topS 53
abbrev NClasses : List Str := ["held", "told", "found", "number", "key", "row", "lot"]
theorem scClasses : FnScope NClasses ["held", "told"] (defScope sClasses) := ⟨rfl, rfl, rfl, by decide +kernel, rfl, by decide +kernel, by decide +kernel⟩
def keyC (told : List Nat) (n : Nat) : D := natsT (told.map fun r => oddN (r &&& n))
def tupOf : D → List D
  | .tup l => l
  | _ => []
def ckv (held : Nat) (told : List Nat) : Nat → List (D × D)
  | 0 => []
  | n + 1 => putD (ckv held told n) (keyC told n) (.tup (tupOf ((lookD (ckv held told n) (keyC told n).nk).getD (.tup [])) ++ [boolsD (standOf n held)]))
theorem putD_mem {kvs : List (D × D)} {k v : D} {p : D × D} (h : p ∈ putD kvs k v) : p.2 = v ∨ p ∈ kvs := by
  unfold putD at h
  split at h
  · obtain ⟨q, hq, rfl⟩ := List.mem_map.mp h
    split
    · exact .inl rfl
    · exact .inr hq
  · rcases List.mem_append.mp h with h | h
    · exact .inr h
    · cases List.mem_singleton.mp h
      exact .inl rfl
theorem putD_len (kvs : List (D × D)) (k v : D) : (putD kvs k v).length ≤ kvs.length + 1 := by
  unfold putD
  split
  · rw [List.length_map]; exact Nat.le_succ _
  · rw [List.length_append]; exact Nat.le_refl _
theorem lookD_mem {kvs : List (D × D)} {k : NK} {d : D} (h : lookD kvs k = some d) : ∃ p ∈ kvs, p.2 = d := by
  unfold lookD at h
  obtain ⟨p, hp, rfl⟩ := Option.map_eq_some_iff.mp h
  exact ⟨p, List.mem_of_find?_eq_some hp, rfl⟩
/-- a lot: some stands, at least one, at most n -/
def LotOk (held n : Nat) (d : D) : Prop := ∃ l : List (List Bool), d = .tup (l.map boolsD) ∧ 1 ≤ l.length ∧ l.length ≤ n ∧ ∀ b ∈ l, b.length = held
theorem ckv_ok (held : Nat) (told : List Nat) : ∀ n, (ckv held told n).length ≤ n ∧ ∀ p ∈ ckv held told n, LotOk held n p.2
  | 0 => ⟨Nat.le_refl _, fun p hp => by cases hp⟩
  | n + 1 => by
    obtain ⟨h1, h2⟩ := ckv_ok held told n
    unfold ckv
    refine ⟨Nat.le_trans (putD_len _ _ _) (Nat.succ_le_succ h1), fun p hp => ?_⟩
    rcases putD_mem hp with e | hp
    · rw [e]
      cases q : lookD (ckv held told n) (keyC told n).nk with
      | none => exact ⟨[standOf n held], rfl, Nat.le_refl _, Nat.succ_le_succ (Nat.zero_le _), fun b hb => by cases List.mem_singleton.mp hb; exact standOf_len n held⟩
      | some d =>
        obtain ⟨p', hp', rfl⟩ := lookD_mem q
        obtain ⟨l, e', l1, l2, l3⟩ := h2 p' hp'
        refine ⟨l ++ [standOf n held], ?_, by rw [List.length_append]; omega, by rw [List.length_append, List.length_singleton]; omega, fun b hb => ?_⟩
        · show D.tup (tupOf p'.2 ++ _) = _
          rw [e', List.map_append]
          rfl
        · rcases List.mem_append.mp hb with hb | hb
          · exact l3 b hb
          · cases List.mem_singleton.mp hb
            exact standOf_len n held
    · obtain ⟨l, e', l1, l2, l3⟩ := h2 p hp
      exact ⟨l, e', l1, Nat.le_succ_of_le l2, l3⟩
def lotsD (held : Nat) (told : List Nat) : List D := (ckv held told (2 ^ held)).map (·.2)
def sortLot (d : D) : D := .tup (sortD (tupOf d))
def duesD (held : Nat) (told : List Nat) : D := .tup (sortD ((lotsD held told).map sortLot))
def spClasses (G : Glo) : DSpec := fun ds Q => ∃ (held : Nat) (told : List Nat), ds = [natD held, natsL told] ∧ 1 ≤ held ∧ held ≤ 10 ∧ told.length ≤ 100 ∧ Q (duesD held told)
theorem keyC_ok (told : List Nat) (n : Nat) : (keyC told n).keyT := by
  refine ⟨rfl, ?_, ?_⟩
  · show D.isNk.allNk ((told.map fun r => oddN (r &&& n)).map natD) = true
    exact allNk_map _ _ fun x _ => rfl
  · show NestedKey.depthAll (nks ((told.map fun r => oddN (r &&& n)).map natD)) + 1 ≤ 8
    rw [nks_map]
    have := depthAll_map (fun x : Nat => (natD x).nk) 0 (told.map fun r => oddN (r &&& n)) fun x _ => Nat.le_refl _
    omega
theorem ckv_get (held : Nat) (told : List Nat) (n : Nat) : ∃ l : List D, (lookD (ckv held told n) (keyC told n).nk).getD (.tup []) = .tup l ∧ l.length ≤ n := by
  obtain ⟨h1, h2⟩ := ckv_ok held told n
  cases q : lookD (ckv held told n) (keyC told n).nk with
  | none => exact ⟨[], rfl, Nat.zero_le _⟩
  | some d =>
    obtain ⟨p', hp', rfl⟩ := lookD_mem q
    obtain ⟨l, e', l1, l2, l3⟩ := h2 p' hp'
    exact ⟨_, e', by rw [List.length_map]; exact l2⟩
theorem sortD_rows (l : List (List Bool)) : ∃ l' : List (List Bool), sortD (l.map boolsD) = l'.map boolsD ∧ l'.Perm l :=
  ⟨l.mergeSort fun a b => leD (boolsD a) (boolsD b), (List.map_mergeSort (f := boolsD) (r := fun a b => leD (boolsD a) (boolsD b)) (s := leD) fun a _ b _ => rfl).symm, List.mergeSort_perm _ _⟩
theorem ok_classes {f : Addr} {fd : FuncData} {x qual : Str} (F : Fun G.K x qual sClasses f fd) (cO : Callee G "_law_odd" spOdd 1) (cS : Callee G "_law_stand" spLStand 1) : FnOk G.P G.w G.K G.mg G.base CX0 2 f fd ["held", "told"] (spD G.K (spClasses G)) := by
  refine defD F scClasses (fun ds Q h => by obtain ⟨_, _, rfl, _⟩ := h; rfl) (fun ds Q h => ?_)
  obtain ⟨held, told, rfl, h1, hh, htl, hq⟩ := h
  have h2 : 2 ^ held ≤ 2 ^ 10 := Nat.pow_le_pow_right (by decide) hh
  repeat walk_at "d"
  refine Dl.dic (some G.w) (fun _ => rfl) ?_
  repeat walk_at "d"
  refine Ds.for_ (Tgt.name 3 (fun _ => scClasses.nd)) ?_
  repeat walk_at "d"
  refine for_nats (fun n ρ => ∃ s3 s4 s5 s6, ρ = [.sh (natD held), .sh (natsL told), .ow (.dic (some G.w) (ckv held told n)), s3, s4, s5, s6]) ⟨_, _, _, _, rfl⟩ (fun n ρ hn h => ?_) fun ρ h => ?_
  · obtain ⟨s3, s4, s5, s6, rfl⟩ := h
    obtain ⟨c1, c2⟩ := ckv_ok held told n
    repeat walk_at "d"
    refine Dl.sh ?_
    repeat walk_at "d"
    refine De.lc [("row", 5)] .no (Tgt.name 5 (fun _ => scClasses.nd)) (fun _ => blkOk_by (N := ["held", "told", "found", "number", "key", "row", "lot"]) (sc := (defScope sClasses)) (by decide +kernel)) (fun _ => scClasses.nd) ?_
    refine Di.seq ?_
    repeat walk_at "d"
    refine ⟨by rw [List.length_map, sizeLine_eq]; omega, lc_mapG natD (fun r => natD (oddN (r &&& n))) told ?_ fun r hr Q' hq' => ?_⟩
    rotate_left
    · refine De.call cO ?_
      repeat walk_at "d"
      exact ⟨_, rfl, hq'⟩
    repeat walk_at "d"
    show Ds _ [.sh (natD held), .sh (natsL told), .ow (.dic (some G.w) (ckv held told n)), .sh (natD n), .sh (.tup (told.map fun r => natD (oddN (r &&& n)))), s5, s6] _ _
    have ek : D.tup (told.map fun r => natD (oddN (r &&& n))) = keyC told n := by
      show _ = D.tup ((told.map fun r => oddN (r &&& n)).map natD)
      rw [List.map_map]
      rfl
    rw [ek]
    obtain ⟨l, el, ll⟩ := ckv_get held told n
    refine Ds.dput 2 rfl (fun _ => rfl) ?_
    refine De.add ?_
    refine De.dgetOr 2 rfl (fun _ => rfl) ?_
    repeat walk_at "d"
    refine ⟨Nat.zero_le _, keyC_ok told n, ?_⟩
    rw [el]
    refine De.tup (Da.cons ?_)
    refine De.call cS ?_
    repeat walk_at "d"
    refine ⟨n, held, rfl, by omega, ?_⟩
    repeat walk_at "d"
    refine ⟨by rw [sizeLine_eq]; exact Nat.le_of_ble_eq_true rfl, ?_⟩
    refine addT (by rw [List.length_singleton, sizeLine_eq]; omega) ?_
    repeat walk_at "d"
    have ec : ckv held told (n + 1) = putD (ckv held told n) (keyC told n) (.tup (l ++ [boolsD (standOf n held)])) := by
      show putD _ _ (.tup (tupOf ((lookD (ckv held told n) (keyC told n).nk).getD (.tup [])) ++ _)) = _
      rw [el]
      rfl
    rw [ec]
    exact ⟨keyC_ok told n, by rw [sizeLine_eq]; omega, _, _, _, _, rfl⟩
  · obtain ⟨s3, s4, s5, s6, rfl⟩ := h
    refine Db.pin 2 rfl ?_
    show Db _ [.sh (natD held), .sh (natsL told), .sh (.vals (lotsD held told)), s3, s4, s5, s6] _ _
    obtain ⟨c1, c2⟩ := ckv_ok held told (2 ^ held)
    have hlot : ∀ d ∈ lotsD held told, LotOk held (2 ^ held) d := fun d hd => by
      obtain ⟨p, hp, rfl⟩ := List.mem_map.mp hd
      exact c2 p hp
    refine Db.one (Ds.ret (De.toTup (fun _ => Txt.tuple) (Da.cons (De.sortD (fun _ => Txt.sorted) (Da.cons ?_)))))
    refine De.lc [("lot", 6)] .no (Tgt.name 6 (fun _ => scClasses.nd)) (fun _ => blkOk_by (N := ["held", "told", "found", "number", "key", "row", "lot"]) (sc := (defScope sClasses)) (by decide +kernel)) (fun _ => scClasses.nd) ?_
    refine Di.vals ?_
    repeat walk_at "d"
    refine ⟨by unfold lotsD; rw [List.length_map, sizeLine_eq]; omega, lc_map sortLot (lotsD held told) ?_ fun d hd Q' hq' => ?_⟩
    · refine Da.nil ?_
      have hs : ∀ d ∈ (lotsD held told).map sortLot, ∃ l : List (List Bool), d = .tup (l.map boolsD) ∧ 1 ≤ l.length := fun d hd => by
        obtain ⟨e, he, rfl⟩ := List.mem_map.mp hd
        obtain ⟨l, rfl, l1, l2, l3⟩ := hlot e he
        obtain ⟨l', e1, pm⟩ := sortD_rows l
        refine ⟨l', ?_, by rw [pm.length_eq]; exact l1⟩
        show D.tup (sortD (l.map boolsD)) = _
        rw [e1]
      refine ⟨fun d hd => ?_, fun d hd d' hd' => ?_, .inl fun d hd => ?_, ?_⟩
      · obtain ⟨l, rfl, _⟩ := hs d hd
        exact ⟨nk_lot l, depth_lot l⟩
      · obtain ⟨e, he, rfl⟩ := List.mem_map.mp hd
        obtain ⟨e', he', rfl⟩ := List.mem_map.mp hd'
        obtain ⟨l, rfl, _⟩ := hs e he
        obtain ⟨l', rfl, _⟩ := hs e' he'
        exact alike_lot l l'
      · obtain ⟨e, he, rfl⟩ := List.mem_map.mp hd
        obtain ⟨l, rfl, l1⟩ := hs e he
        cases l with
        | nil => cases l1
        | cons y ys => exact ⟨_, _, rfl⟩
      · repeat walk_at "d"
        exact hq
    · obtain ⟨l, rfl, l1, l2, l3⟩ := hlot d hd
      refine De.toTup (fun _ => Txt.tuple) (Da.cons (De.sortT (fun _ => Txt.sorted) (Da.cons ?_)))
      repeat walk_at "d"
      refine ⟨fun d hd => ?_, fun d hd d' hd' => ?_, .inl fun d hd => ?_, ?_⟩
      · obtain ⟨b, _, rfl⟩ := List.mem_map.mp hd
        exact ⟨nk_row b, depth_row b⟩
      · obtain ⟨e, he, rfl⟩ := List.mem_map.mp hd
        obtain ⟨e', he', rfl⟩ := List.mem_map.mp hd'
        obtain ⟨b, _, rfl⟩ := List.mem_map.mp he
        obtain ⟨b', _, rfl⟩ := List.mem_map.mp he'
        exact alike_row b b'
      · obtain ⟨e, he, rfl⟩ := List.mem_map.mp hd
        obtain ⟨b, hb, rfl⟩ := List.mem_map.mp he
        have hl := l3 b hb
        cases b with
        | nil =>
          rw [List.length_nil] at hl
          omega
        | cons y ys => exact ⟨_, _, rfl⟩
      · repeat walk_at "d"
        exact hq'
end K13
set_option linter.all false
/-! MA: parities of whole numbers, by bits. -/
namespace K13
/-- xor of f below n -/
def px : Nat → (Nat → Bool) → Bool
  | 0, _ => false
  | n + 1, f => (px n f ^^ f n)
theorem px_succ' (f : Nat → Bool) : ∀ n, px (n + 1) f = (f 0 ^^ px n fun i => f (i + 1))
  | 0 => by simp [px]
  | n + 1 => by
    rw [px, px_succ' f n, px, Bool.xor_assoc]
theorem px_congr {f g : Nat → Bool} : ∀ n, (∀ i, i < n → f i = g i) → px n f = px n g
  | 0, _ => rfl
  | n + 1, h => by rw [px, px, px_congr n fun i hi => h i (by omega), h n (by omega)]
theorem px_xor (f g : Nat → Bool) : ∀ n, px n (fun i => (f i ^^ g i)) = (px n f ^^ px n g)
  | 0 => rfl
  | n + 1 => by
    rw [px, px, px, px_xor f g n]
    cases px n f <;> cases px n g <;> cases f n <;> cases g n <;> rfl
theorem px_false : ∀ n, px n (fun _ => false) = false
  | 0 => rfl
  | n + 1 => by rw [px, px_false n]; rfl
theorem px_and (b : Bool) (f : Nat → Bool) (n : Nat) : px n (fun i => (b && f i)) = (b && px n f) := by
  cases b
  · simp [px_false]
  · simp
theorem px_swap (f : Nat → Nat → Bool) (m : Nat) : ∀ n, px n (fun p => px m (f p)) = px m (fun q => px n fun p => f p q)
  | 0 => (px_false m).symm
  | n + 1 => by
    rw [px, px_swap f m n, ← px_xor]
    rfl
theorem px_one {f : Nat → Bool} {n k : Nat} (hk : k < n) (h : ∀ i, i < n → i ≠ k → f i = false) : px n f = f k := by
  induction n with
  | zero => omega
  | succ n ih =>
    rw [px]
    by_cases e : k = n
    · subst e
      rw [px_congr k (g := fun _ => false) fun i hi => h i (by omega) (by omega), px_false]
      exact Bool.false_xor _
    · rw [ih (by omega) fun i hi => h i (by omega), h n (by omega) (by omega)]
      exact Bool.xor_false _
theorem px_add (f : Nat → Bool) (n : Nat) : ∀ k, (∀ i, n ≤ i → f i = false) → px (n + k) f = px n f
  | 0, _ => rfl
  | k + 1, h => by
    rw [← Nat.add_assoc, px, px_add f n k h, h _ (by omega), Bool.xor_false]
theorem oddN_half (n : Nat) : oddN n = (n % 2) ^^^ oddN (n / 2) := by
  by_cases h : n = 0
  · subst h
    rw [oddN]
    simp [oddN]
  · conv => lhs; rw [oddN]
    rw [dif_neg h]
theorem bxor_nat (a b : Bool) : (a ^^ b).toNat = a.toNat ^^^ b.toNat := by cases a <;> cases b <;> rfl
theorem oddN_px : ∀ (n a : Nat), a < 2 ^ n → oddN a = (px n a.testBit).toNat
  | 0, a, h => by
    have e : a = 0 := by simpa using h
    subst e
    rw [oddN]
    rfl
  | n + 1, a, h => by
    rw [oddN_half, px_succ', oddN_px n (a / 2) (by rw [Nat.pow_succ] at h; omega), bxor_nat]
    congr 1
    · rw [Nat.testBit_zero]
      rcases Nat.mod_two_eq_zero_or_one a with e | e <;> rw [e] <;> rfl
    · congr 1
      exact px_congr n fun i _ => (Nat.testBit_succ a i).symm
/-- the parity of a's ones -/
def par (a : Nat) : Bool := decide (oddN a = 1)
theorem par_px {a n : Nat} (h : a < 2 ^ n) : par a = px n a.testBit := by
  unfold par
  rw [oddN_px n a h]
  cases px n a.testBit <;> rfl
theorem oddN_par (a : Nat) : oddN a = (par a).toNat := by
  rw [oddN_px a a Nat.lt_two_pow_self, par_px (n := a) Nat.lt_two_pow_self]
theorem par_xor (a b : Nat) : par (a ^^^ b) = (par a ^^ par b) := by
  have ha : a < 2 ^ (a + b) := Nat.lt_of_lt_of_le Nat.lt_two_pow_self (Nat.pow_le_pow_right (by decide) (by omega))
  have hb : b < 2 ^ (a + b) := Nat.lt_of_lt_of_le Nat.lt_two_pow_self (Nat.pow_le_pow_right (by decide) (by omega))
  rw [par_px (Nat.xor_lt_two_pow ha hb), par_px ha, par_px hb, ← px_xor]
  exact px_congr _ fun i _ => Nat.testBit_xor ..
theorem par_zero : par 0 = false := by
  rw [par_px (n := 0) (by decide)]
  rfl
/-- the parity of what two numbers have both -/
def dot (a b : Nat) : Bool := par (a &&& b)
theorem dot_xl (a b c : Nat) : dot (a ^^^ b) c = (dot a c ^^ dot b c) := by
  unfold dot
  rw [Nat.and_xor_distrib_right, par_xor]
theorem dot_xr (a b c : Nat) : dot a (b ^^^ c) = (dot a b ^^ dot a c) := by
  unfold dot
  rw [Nat.and_xor_distrib_left, par_xor]
theorem dot_zl (a : Nat) : dot 0 a = false := by
  unfold dot
  rw [Nat.zero_and, par_zero]
theorem dot_zr (a : Nat) : dot a 0 = false := by
  unfold dot
  rw [Nat.and_zero, par_zero]
theorem dot_comm (a b : Nat) : dot a b = dot b a := by
  unfold dot
  rw [Nat.and_comm]
theorem dot_px {a b n : Nat} (h : a < 2 ^ n) : dot a b = px n fun i => (a.testBit i && b.testBit i) := by
  unfold dot
  rw [par_px (n := n) (Nat.lt_of_le_of_lt Nat.and_le_left h)]
  exact px_congr _ fun i _ => Nat.testBit_and ..
theorem dot_px' {a b n : Nat} (h : b < 2 ^ n) : dot a b = px n fun i => (a.testBit i && b.testBit i) := by
  rw [dot_comm, dot_px h]
  exact px_congr _ fun i _ => Bool.and_comm ..
theorem dot_pow (a p : Nat) : dot a (2 ^ p) = a.testBit p := by
  rw [dot_px' (n := p + 1) (Nat.pow_lt_pow_right (by decide) (by omega)), px_one (k := p) (by omega) fun i hi hn => by rw [Nat.testBit_two_pow_of_ne (by omega), Bool.and_false], Nat.testBit_two_pow_self, Bool.and_true]
/-- the number of bits -/
def ofB (n : Nat) (f : Nat → Bool) : Nat := ((List.range n).map fun p => (f p).toNat * 2 ^ p).sum
theorem ofB_succ (n : Nat) (f : Nat → Bool) : ofB (n + 1) f = ofB n f + (f n).toNat * 2 ^ n := by
  unfold ofB
  rw [List.range_succ, List.map_append, List.sum_append]
  simp
theorem ofB_lt (f : Nat → Bool) : ∀ n, ofB n f < 2 ^ n
  | 0 => Nat.zero_lt_one
  | n + 1 => by
    rw [ofB_succ]
    have := ofB_lt f n
    cases f n <;> simp [Nat.pow_succ] <;> omega
theorem ofB_bit (f : Nat → Bool) : ∀ n i, (ofB n f).testBit i = (decide (i < n) && f i)
  | 0, i => by
    show (0 : Nat).testBit i = _
    rw [Nat.zero_testBit]
    simp
  | n + 1, i => by
    rw [ofB_succ, Nat.add_comm, Nat.mul_comm, Nat.testBit_two_pow_mul_add _ (ofB_lt f n), ofB_bit f n i]
    by_cases h : i < n
    · rw [if_pos h, decide_eq_true h, decide_eq_true (by omega : i < n + 1)]
    · rw [if_neg h]
      by_cases e : i = n
      · subst e
        rw [Nat.sub_self, decide_eq_true (by omega : i < i + 1)]
        cases f i <;> rfl
      · rw [decide_eq_false (by omega : ¬ i < n + 1), Bool.false_and]
        have : i - n ≠ 0 := by omega
        obtain ⟨k, hk⟩ : ∃ k, i - n = k + 1 := ⟨i - n - 1, by omega⟩
        rw [hk, Nat.testBit_succ]
        cases f n <;> simp
theorem stepT_ofB (cols : List Nat) (s : Nat) : stepT cols s = ofB cols.length fun p => dot (cols.getD p 0) s := by
  unfold stepT ofB dot
  congr 1
  exact List.map_congr_left fun p _ => by rw [oddN_par]
theorem colOf_ofB (rows : List Nat) (a : Nat) : colOf rows a = ofB rows.length fun p => (rows.getD p 0).testBit a := by
  unfold colOf ofB
  congr 1
  refine List.map_congr_left fun p _ => ?_
  congr 1
  show _ = ((rows.getD p 0).testBit a).toNat
  rw [Nat.and_one_is_mod, Nat.testBit_eq_decide_div_mod_eq, Nat.shiftRight_eq_div_pow]
  rcases Nat.mod_two_eq_zero_or_one (rows.getD p 0 / 2 ^ a) with e | e <;> rw [e] <;> rfl
theorem stepT_lt (cols : List Nat) (s : Nat) : stepT cols s < 2 ^ cols.length := by
  rw [stepT_ofB]
  exact ofB_lt _ _
theorem stepT_xor (cols : List Nat) (a b : Nat) : stepT cols (a ^^^ b) = stepT cols a ^^^ stepT cols b := by
  apply Nat.eq_of_testBit_eq
  intro i
  rw [Nat.testBit_xor, stepT_ofB, stepT_ofB, stepT_ofB, ofB_bit, ofB_bit, ofB_bit, dot_xr]
  cases decide (i < cols.length) <;> simp
theorem stepT_zero (cols : List Nat) : stepT cols 0 = 0 := by
  apply Nat.eq_of_testBit_eq
  intro i
  rw [stepT_ofB, ofB_bit, dot_zr, Bool.and_false, Nat.zero_testBit]
theorem turned_len (rows : List Nat) (n : Nat) : (turned rows n).length = n := by
  unfold turned
  rw [List.length_map, List.length_range]
theorem turned_get {rows : List Nat} {n p : Nat} (h : p < n) : (turned rows n).getD p 0 = colOf rows p := by
  unfold turned
  rw [List.getD_eq_getElem?_getD, List.getElem?_map, List.getElem?_range h]
  rfl
/-- what is told behind a move is told now by the sums turned -/
theorem dot_turned {own : List Nat} {s x n : Nat} (hn : own.length = n) (hs : s < 2 ^ n) (hx : x < 2 ^ n) : dot (stepT (turned own n) s) x = dot s (stepT own x) := by
  have h1 : ∀ p, p < n → (stepT (turned own n) s).testBit p = px n fun q => ((own.getD q 0).testBit p && s.testBit q) := fun p hp => by
    rw [stepT_ofB, ofB_bit, turned_len, decide_eq_true hp, Bool.true_and, turned_get hp, colOf_ofB, hn, dot_px (n := n) (ofB_lt _ _)]
    exact px_congr _ fun q hq => by rw [ofB_bit, decide_eq_true hq, Bool.true_and]
  have h2 : ∀ q, q < n → (stepT own x).testBit q = px n fun p => ((own.getD q 0).testBit p && x.testBit p) := fun q hq => by
    rw [stepT_ofB, ofB_bit, hn, decide_eq_true hq, Bool.true_and, dot_px' hx]
  rw [dot_px' hx, dot_px hs]
  have e1 : px n (fun i => ((stepT (turned own n) s).testBit i && x.testBit i)) = px n fun p => px n fun q => (x.testBit p && ((own.getD q 0).testBit p && s.testBit q)) :=
    px_congr _ fun p hp => by rw [h1 p hp, Bool.and_comm, ← px_and]
  have e2 : px n (fun i => (s.testBit i && (stepT own x).testBit i)) = px n fun q => px n fun p => (s.testBit q && ((own.getD q 0).testBit p && x.testBit p)) :=
    px_congr _ fun q hq => by rw [h2 q hq, ← px_and]
  rw [e1, e2, px_swap]
  refine px_congr _ fun q _ => px_congr _ fun p _ => ?_
  cases x.testBit p <;> cases s.testBit q <;> cases (own.getD q 0).testBit p <;> rfl
end K13
set_option linter.all false
/-! MB: straight bases. -/
namespace K13
theorem min_bit {a b : Nat} (i : Nat) : (min a (a ^^^ b)).testBit i = a.testBit i ∨ (min a (a ^^^ b)).testBit i = (a.testBit i ^^ b.testBit i) := by
  rcases Nat.le_total a (a ^^^ b) with h | h
  · rw [Nat.min_eq_left h]; exact .inl rfl
  · rw [Nat.min_eq_right h, Nat.testBit_xor]; exact .inr rfl
theorem min_keep {a b i : Nat} (h : b.testBit i = false) : (min a (a ^^^ b)).testBit i = a.testBit i := by
  rcases min_bit (a := a) (b := b) i with e | e
  · exact e
  · rw [e, h, Bool.xor_false]
theorem log2_bit {b : Nat} (h : 0 < b) : b.testBit (Nat.log2 b) = true := by
  rw [Nat.testBit_eq_decide_div_mod_eq, decide_eq_true_eq]
  have h1 : 2 ^ b.log2 ≤ b := Nat.log2_self_le (by omega)
  have h2 : b < 2 ^ (b.log2 + 1) := Nat.lt_log2_self
  have h3 : b / 2 ^ b.log2 = 1 := by
    apply Nat.div_eq_of_lt_le
    · omega
    · rw [Nat.pow_succ] at h2; omega
  rw [h3]
theorem log2_high {b j : Nat} (h : Nat.log2 b < j) : b.testBit j = false :=
  Nat.testBit_lt_two_pow (Nat.lt_of_lt_of_le Nat.lt_log2_self (Nat.pow_le_pow_right (by decide) h))
theorem lt_by_bit {x y i : Nat} (hx : x.testBit i = false) (hy : y.testBit i = true) (h : ∀ j, i < j → x.testBit j = y.testBit j) : x < y := by
  have e : x / 2 ^ i / 2 = y / 2 ^ i / 2 := by
    apply Nat.eq_of_testBit_eq
    intro j
    rw [← Nat.testBit_succ, ← Nat.testBit_succ, Nat.testBit_div_two_pow, Nat.testBit_div_two_pow]
    exact h _ (by omega)
  rw [Nat.testBit_eq_decide_div_mod_eq] at hx hy
  have hx := of_decide_eq_false hx
  have hy := of_decide_eq_true hy
  exact Nat.lt_of_not_le fun z => by
    have := Nat.div_le_div_right (c := 2 ^ i) z
    omega
theorem min_off {a b : Nat} (h : 0 < b) : (min a (a ^^^ b)).testBit (Nat.log2 b) = false := by
  have hb := log2_bit h
  by_cases e : a.testBit (Nat.log2 b) = true
  · have hx : (a ^^^ b).testBit (Nat.log2 b) = false := by rw [Nat.testBit_xor, e, hb]; rfl
    have hl : a ^^^ b < a := lt_by_bit hx e fun j hj => by rw [Nat.testBit_xor, log2_high hj, Bool.xor_false]
    rw [Nat.min_eq_right (by omega)]
    exact hx
  · have e := Bool.eq_false_iff.mpr e
    have hx : (a ^^^ b).testBit (Nat.log2 b) = true := by rw [Nat.testBit_xor, e, hb]; rfl
    have hl : a < a ^^^ b := lt_by_bit e hx fun j hj => by rw [Nat.testBit_xor, log2_high hj, Bool.xor_false]
    rw [Nat.min_eq_left (by omega)]
    exact e
theorem min_dot {a b x : Nat} (h : dot b x = false) : dot (min a (a ^^^ b)) x = dot a x := by
  rcases Nat.le_total a (a ^^^ b) with h2 | h2
  · rw [Nat.min_eq_left h2]
  · rw [Nat.min_eq_right h2, dot_xl, h, Bool.xor_false]
theorem redN_cons (o : Nat) (base : List Nat) (n : Nat) : redN (o :: base) n = redN base (min n (n ^^^ o)) := rfl
theorem red_dot {x : Nat} : ∀ {base : List Nat} (n : Nat), (∀ b ∈ base, dot b x = false) → dot (redN base n) x = dot n x
  | [], n, _ => rfl
  | o :: base, n, h => by
    rw [redN_cons, red_dot _ fun b hb => h b (List.mem_cons_of_mem _ hb), min_dot (h o List.mem_cons_self)]
theorem red_le : ∀ (base : List Nat) (n : Nat), redN base n ≤ n
  | [], n => Nat.le_refl _
  | o :: base, n => by
    rw [redN_cons]
    exact Nat.le_trans (red_le base _) (Nat.min_le_left _ _)
theorem red_keep {i : Nat} : ∀ {base : List Nat} (n : Nat), (∀ b ∈ base, b.testBit i = false) → (redN base n).testBit i = n.testBit i
  | [], n, _ => rfl
  | o :: base, n, h => by
    rw [redN_cons, red_keep _ fun b hb => h b (List.mem_cons_of_mem _ hb), min_keep (h o List.mem_cons_self)]
def Apart (b c : Nat) : Prop := c.testBit (Nat.log2 b) = false ∧ b.testBit (Nat.log2 c) = false
theorem Apart.symm {b c : Nat} (h : Apart b c) : Apart c b := ⟨h.2, h.1⟩
structure Straight (k : Nat) (base : List Nat) : Prop where
  pos : ∀ b ∈ base, 0 < b ∧ b < 2 ^ k
  apart : base.Pairwise Apart
theorem red_off : ∀ {base : List Nat} (n : Nat), (∀ b ∈ base, 0 < b) → base.Pairwise Apart → ∀ b ∈ base, (redN base n).testBit (Nat.log2 b) = false
  | o :: base, n, hp, h, b, hb => by
    rw [redN_cons]
    obtain ⟨h1, h2⟩ := List.pairwise_cons.mp h
    rcases List.mem_cons.mp hb with rfl | hb
    · rw [red_keep _ fun c hc => (h1 c hc).1]
      exact min_off (hp _ List.mem_cons_self)
    · exact red_off _ (fun b hb => hp b (List.mem_cons_of_mem _ hb)) h2 b hb
theorem log2_eq {n q : Nat} (h : n.testBit q = true) (hh : ∀ j, q < j → n.testBit j = false) : Nat.log2 n = q := by
  have h0 : 0 < n := by
    rcases Nat.eq_zero_or_pos n with rfl | h0
    · rw [Nat.zero_testBit] at h; cases h
    · exact h0
  have hb := log2_bit h0
  rcases Nat.lt_trichotomy (Nat.log2 n) q with c | c | c
  · rw [log2_high c] at h; cases h
  · exact c
  · rw [hh _ c] at hb; cases hb
/-- the lead of what is made less by r stays -/
theorem min_lead {o r : Nat} (ho : 0 < o) (hr : 0 < r) (h : r.testBit (Nat.log2 o) = false) : Nat.log2 (min o (o ^^^ r)) = Nat.log2 o := by
  have e : (min o (o ^^^ r)).testBit (Nat.log2 o) = true := by rw [min_keep h, log2_bit ho]
  refine log2_eq e fun j hj => ?_
  rcases Nat.lt_trichotomy j (Nat.log2 r) with c | c | c
  · refine Bool.eq_false_iff.mpr fun z => ?_
    have hl : min o (o ^^^ r) = o := by
      refine Nat.min_eq_left ?_
      have hx : (o ^^^ r).testBit (Nat.log2 r) = true := by rw [Nat.testBit_xor, log2_high (by omega), log2_bit hr]; rfl
      have : o < o ^^^ r := lt_by_bit (log2_high (by omega)) hx fun i hi => by rw [Nat.testBit_xor, log2_high hi, Bool.xor_false]
      omega
    rw [hl, log2_high hj] at z
    cases z
  · subst c
    exact min_off hr
  · rw [min_keep (log2_high c), log2_high hj]
theorem Straight.step {k : Nat} {base : List Nat} (h : Straight k base) {n : Nat} (hn : n < 2 ^ k) : Straight k (baseStep base n) := by
  unfold baseStep
  have hoff := red_off n (fun b hb => (h.pos b hb).1) h.apart
  have hrk : redN base n < 2 ^ k := Nat.lt_of_le_of_lt (red_le base n) hn
  generalize redN base n = r at *
  split
  · rename_i hr
    have hperm : ((sortN (base.map (fun o => min o (o ^^^ r)) ++ [r])).reverse).Perm (base.map (fun o => min o (o ^^^ r)) ++ [r]) := (List.reverse_perm _).trans (sortN_perm _)
    refine ⟨fun b hb => ?_, ?_⟩
    · rcases List.mem_append.mp (hperm.mem_iff.mp hb) with hb | hb
      · obtain ⟨o, ho, rfl⟩ := List.mem_map.mp hb
        have hl := min_lead (h.pos o ho).1 hr (hoff o ho)
        refine ⟨?_, Nat.lt_of_le_of_lt (Nat.min_le_left _ _) (h.pos o ho).2⟩
        rcases Nat.eq_zero_or_pos (min o (o ^^^ r)) with z | z
        · have e : (min o (o ^^^ r)).testBit (Nat.log2 o) = true := by rw [min_keep (hoff o ho), log2_bit (h.pos o ho).1]
          rw [z, Nat.zero_testBit] at e
          cases e
        · exact z
      · cases List.mem_singleton.mp hb
        exact ⟨hr, hrk⟩
    · refine (hperm.pairwise_iff fun {a b} z => Apart.symm z).mpr ?_
      refine List.pairwise_append.mpr ⟨?_, List.pairwise_singleton _ _, fun a ha b hb => ?_⟩
      · refine List.pairwise_map.mpr (h.apart.imp_of_mem fun {a b} ha hb z => ?_)
        have la := min_lead (h.pos a ha).1 hr (hoff a ha)
        have lb := min_lead (h.pos b hb).1 hr (hoff b hb)
        unfold Apart
        rw [la, lb, min_keep (hoff a ha), min_keep (hoff b hb)]
        exact z
      · cases List.mem_singleton.mp hb
        obtain ⟨o, ho, rfl⟩ := List.mem_map.mp ha
        unfold Apart
        rw [min_lead (h.pos o ho).1 hr (hoff o ho)]
        exact ⟨hoff o ho, min_off hr⟩
  · exact h
theorem straight_of {k : Nat} : ∀ (ns : List Nat) {base : List Nat}, Straight k base → (∀ n ∈ ns, n < 2 ^ k) → Straight k (ns.foldl baseStep base)
  | [], _, h, _ => h
  | n :: ns, _, h, hn => straight_of ns (h.step (hn n List.mem_cons_self)) fun x hx => hn x (List.mem_cons_of_mem _ hx)
theorem straight {k : Nat} {ns : List Nat} (hn : ∀ n ∈ ns, n < 2 ^ k) : Straight k (baseOf ns) :=
  straight_of ns ⟨fun b hb => (by cases hb), .nil⟩ hn
/-- what all of a list vanish on -/
def Orth (l : List Nat) (x : Nat) : Prop := ∀ b ∈ l, dot b x = false
theorem step_orth {base : List Nat} {n x : Nat} : Orth (baseStep base n) x ↔ Orth base x ∧ dot n x = false := by
  unfold baseStep
  have hrd := red_dot (x := x) (base := base) n
  generalize redN base n = r at *
  split
  · rename_i hr
    have hperm : ((sortN (base.map (fun o => min o (o ^^^ r)) ++ [r])).reverse).Perm (base.map (fun o => min o (o ^^^ r)) ++ [r]) := (List.reverse_perm _).trans (sortN_perm _)
    constructor
    · intro h
      have hrx : dot r x = false := h r (hperm.mem_iff.mpr (List.mem_append_right _ (List.mem_singleton.mpr rfl)))
      have ho : Orth base x := fun o ho => by
        have := h _ (hperm.mem_iff.mpr (List.mem_append_left _ (List.mem_map.mpr ⟨o, ho, rfl⟩)))
        rw [min_dot hrx] at this
        exact this
      exact ⟨ho, (hrd ho).symm.trans hrx⟩
    · rintro ⟨ho, hn⟩ b hb
      have hrx : dot r x = false := (hrd ho).trans hn
      rcases List.mem_append.mp (hperm.mem_iff.mp hb) with hb | hb
      · obtain ⟨o, h, rfl⟩ := List.mem_map.mp hb
        rw [min_dot hrx]
        exact ho o h
      · cases List.mem_singleton.mp hb
        exact hrx
  · rename_i hr
    have e : r = 0 := by omega
    refine ⟨fun h => ⟨h, ?_⟩, fun h => h.1⟩
    rw [← hrd h, e, dot_zl]
theorem fold_orth {x : Nat} : ∀ {ns base : List Nat}, Orth (ns.foldl baseStep base) x ↔ Orth base x ∧ Orth ns x
  | [], base => ⟨fun h => ⟨h, fun b hb => by cases hb⟩, fun h => h.1⟩
  | n :: ns, base => by
    rw [List.foldl_cons, fold_orth, step_orth]
    constructor
    · rintro ⟨⟨a, b⟩, c⟩
      refine ⟨a, fun y hy => ?_⟩
      rcases List.mem_cons.mp hy with rfl | hy
      · exact b
      · exact c y hy
    · rintro ⟨a, b⟩
      exact ⟨⟨a, b n List.mem_cons_self⟩, fun y hy => b y (List.mem_cons_of_mem _ hy)⟩
theorem base_orth {x : Nat} {ns : List Nat} : Orth (baseOf ns) x ↔ Orth ns x := by
  unfold baseOf
  rw [fold_orth]
  exact ⟨fun h => h.2, fun h => ⟨fun b hb => (by cases hb), h⟩⟩
/-! ### counting -/
theorem count_flip {N : Nat} (f : Nat → Nat) (hf : ∀ x, x < N → f x < N) (hi : ∀ x, x < N → f (f x) = x) (p : Nat → Bool) : (List.range N).countP (fun x => p (f x)) = (List.range N).countP p := by
  have hp : ((List.range N).map f).Perm (List.range N) := by
    refine (List.perm_ext_iff_of_nodup ?_ List.nodup_range).mpr fun a => ?_
    · refine List.pairwise_map.mpr ((List.nodup_range (n := N)).imp_of_mem fun {a b} ha hb z e => z ?_)
      rw [← hi a (List.mem_range.mp ha), ← hi b (List.mem_range.mp hb), e]
    · rw [List.mem_map, List.mem_range]
      exact ⟨fun ⟨x, hx, e⟩ => e ▸ hf x (List.mem_range.mp hx), fun h => ⟨f a, List.mem_range.mpr (hf a h), hi a h⟩⟩
  conv => rhs; rw [← hp.countP_eq, List.countP_map]
  rfl
def keyB (base : List Nat) (x : Nat) : List Bool := base.map fun b => dot b x
theorem countP_split {α : Type} (p q : α → Bool) (l : List α) : l.countP p = l.countP (fun x => p x && q x) + l.countP (fun x => p x && !q x) := by
  induction l with
  | nil => rfl
  | cons a l ih =>
    rw [List.countP_cons, List.countP_cons, List.countP_cons, ih]
    cases p a <;> cases q a <;> simp <;> omega
theorem count_key {k : Nat} : ∀ {base : List Nat}, Straight k base → ∀ c : List Bool, c.length = base.length → (List.range (2 ^ k)).countP (fun x => keyB base x == c) * 2 ^ base.length = 2 ^ k
  | [], _, c, hc => by
    have e : c = [] := List.length_eq_zero_iff.mp hc
    subst e
    rw [List.countP_eq_length.mpr fun x _ => (by rfl), List.length_range]
    simp
  | b :: base, h, [], hc => by simp at hc
  | b :: base, h, t :: c, hc => by
    obtain ⟨h1, h2⟩ := List.pairwise_cons.mp h.apart
    have hs : Straight k base := ⟨fun x hx => h.pos x (List.mem_cons_of_mem _ hx), h2⟩
    have ih := count_key hs c (by simpa using hc)
    have hb := h.pos b List.mem_cons_self
    have hp : 2 ^ Nat.log2 b < 2 ^ k := Nat.lt_of_le_of_lt (Nat.log2_self_le (by omega)) hb.2
    rw [countP_split _ (fun x => dot b x == t)] at ih
    have e : (List.range (2 ^ k)).countP (fun x => (keyB base x == c) && !(dot b x == t)) = (List.range (2 ^ k)).countP (fun x => (keyB base x == c) && (dot b x == t)) := by
      rw [← count_flip (fun x => x ^^^ 2 ^ Nat.log2 b) (fun x hx => Nat.xor_lt_two_pow hx hp) (fun x _ => by rw [Nat.xor_assoc, Nat.xor_self, Nat.xor_zero])]
      refine List.countP_congr fun x _ => ?_
      have k1 : keyB base (x ^^^ 2 ^ Nat.log2 b) = keyB base x := List.map_congr_left fun y hy => by rw [dot_xr, dot_pow, (h1 y hy).1, Bool.xor_false]
      rw [k1, dot_xr, dot_pow, log2_bit hb.1]
      cases dot b x <;> cases t <;> simp
    rw [e] at ih
    have e2 : (List.range (2 ^ k)).countP (fun x => keyB (b :: base) x == t :: c) = (List.range (2 ^ k)).countP (fun x => (keyB base x == c) && (dot b x == t)) := by
      refine List.countP_congr fun x _ => ?_
      show (dot b x :: keyB base x == t :: c) = true ↔ _
      rw [List.cons_beq_cons, Bool.and_comm]
    rw [e2, List.length_cons, Nat.pow_succ, Nat.mul_comm (2 ^ base.length), ← Nat.mul_assoc, Nat.mul_two]
    exact ih
theorem straight_len {k : Nat} {base : List Nat} (h : Straight k base) : base.length ≤ k := by
  have e := count_key h (List.replicate base.length false) (by simp)
  refine Nat.le_of_not_lt fun z => ?_
  have h1 : 2 ^ k < 2 ^ base.length := Nat.pow_lt_pow_right (by decide) z
  rcases Nat.eq_zero_or_pos ((List.range (2 ^ k)).countP (fun x => keyB base x == List.replicate base.length false)) with c | c
  · rw [c, Nat.zero_mul] at e
    have := Nat.two_pow_pos k
    omega
  · have := Nat.le_mul_of_pos_left (2 ^ base.length) c
    omega
theorem step_len {base : List Nat} {n : Nat} (h : redN base n ≠ 0) : (baseStep base n).length = base.length + 1 := by
  unfold baseStep
  rw [if_pos (by omega), List.length_reverse, (sortN_perm _).length_eq, List.length_append, List.length_map, List.length_singleton]
end K13
set_option linter.all false
/-! MC: what is told behind moves; counting keys. -/
namespace K13
section
variable {own : List Nat} {s k : Nat}
theorem itT_lt (ho : own.length = k) (hs : s < 2 ^ k) : ∀ i, itT (turned own own.length) s i < 2 ^ k
  | 0 => hs
  | i + 1 => by
    have := stepT_lt (turned own own.length) (itT (turned own own.length) s i)
    rw [turned_len, ho] at this
    rw [ho]
    exact this
theorem orbit_succ (cols : List Nat) (s n : Nat) : orbit cols s (n + 1) = orbit cols s n ++ [itT cols s n] := by
  unfold orbit
  rw [List.range_succ, List.map_append]
  rfl
theorem orbit_orth {cols : List Nat} {s n x : Nat} : Orth (orbit cols s n) x ↔ ∀ j, j < n → dot (itT cols s j) x = false := by
  unfold orbit Orth
  constructor
  · intro h j hj
    exact h _ (List.mem_map.mpr ⟨j, List.mem_range.mpr hj, rfl⟩)
  · intro h b hb
    obtain ⟨j, hj, rfl⟩ := List.mem_map.mp hb
    exact h j (List.mem_range.mp hj)
theorem told_straight (ho : own.length = k) (hs : s < 2 ^ k) (n : Nat) : Straight k (baseOf (orbit (turned own own.length) s n)) := by
  refine straight fun x hx => ?_
  obtain ⟨j, hj, rfl⟩ := List.mem_map.mp hx
  exact itT_lt ho hs j
theorem told_len : ∀ n, (∀ i, i < n → toldAt (turned own own.length) s i ≠ 0) → (baseOf (orbit (turned own own.length) s n)).length = n
  | 0, _ => rfl
  | n + 1, h => by
    rw [orbit_succ, baseOf_snoc, step_len (h n (by omega)), told_len n fun i hi => h i (by omega)]
theorem first_of (p : Nat → Prop) (hd : ∀ n, p n ∨ ¬ p n) : ∀ m, (∀ i, i < m → ¬ p i) ∨ ∃ n, n < m ∧ (∀ i, i < n → ¬ p i) ∧ p n
  | 0 => .inl fun i hi => by omega
  | m + 1 => by
    rcases first_of p hd m with h | ⟨n, h1, h2, h3⟩
    · rcases hd m with c | c
      · exact .inr ⟨m, by omega, h, c⟩
      · refine .inl fun i hi => ?_
        rcases Nat.lt_or_ge i m with z | z
        · exact h i z
        · have : i = m := by omega
          subst this
          exact c
    · exact .inr ⟨n, by omega, h2, h3⟩
theorem exists_told (ho : own.length = k) (hs : s < 2 ^ k) : ∃ n, n ≤ k ∧ (∀ i, i < n → toldAt (turned own own.length) s i ≠ 0) ∧ toldAt (turned own own.length) s n = 0 := by
  rcases first_of (fun n => toldAt (turned own own.length) s n = 0) (fun n => Decidable.em _) (k + 1) with h | ⟨n, h1, h2, h3⟩
  · have l := told_len (own := own) (s := s) (k + 1) h
    have := straight_len (told_straight ho hs (k + 1))
    omega
  · exact ⟨n, by omega, h2, h3⟩
theorem orth_end {n x : Nat} (h : toldAt (turned own own.length) s n = 0) (hx : Orth (orbit (turned own own.length) s n) x) : dot (itT (turned own own.length) s n) x = false := by
  rw [← red_dot (itT (turned own own.length) s n) (base_orth.mpr hx)]
  unfold toldAt at h
  rw [h, dot_zl]
theorem dot_it (ho : own.length = k) (hs : s < 2 ^ k) {x : Nat} (hx : x < 2 ^ k) (i : Nat) : dot (itT (turned own own.length) s (i + 1)) x = dot (itT (turned own own.length) s i) (stepT own x) := by
  show dot (stepT (turned own own.length) (itT (turned own own.length) s i)) x = _
  rw [ho]
  have := itT_lt ho hs i
  rw [ho] at this
  exact dot_turned ho this hx
theorem orth_step (ho : own.length = k) (hs : s < 2 ^ k) {n x : Nat} (hx : x < 2 ^ k) : Orth (orbit (turned own own.length) s (n + 2)) x ↔ Orth (orbit (turned own own.length) s (n + 1)) x ∧ Orth (orbit (turned own own.length) s (n + 1)) (stepT own x) := by
  rw [orbit_orth, orbit_orth, orbit_orth]
  constructor
  · intro h
    exact ⟨fun j hj => h j (by omega), fun j hj => by rw [← dot_it ho hs hx]; exact h (j + 1) (by omega)⟩
  · rintro ⟨h1, h2⟩ j hj
    rcases Nat.lt_or_ge j (n + 1) with z | z
    · exact h1 j z
    · have : j = n + 1 := by omega
      subst this
      rw [dot_it ho hs hx]
      exact h2 n (by omega)
theorem orth_all (ho : own.length = k) (hs : s < 2 ^ k) {n : Nat} (h : toldAt (turned own own.length) s n = 0) : ∀ j x, x < 2 ^ k → Orth (orbit (turned own own.length) s n) x → dot (itT (turned own own.length) s j) x = false
  | 0, x, hx, ox => by
    rcases Nat.eq_zero_or_pos n with e | e
    · subst e
      exact orth_end h ox
    · exact orbit_orth.mp ox 0 e
  | j + 1, x, hx, ox => by
    rw [dot_it ho hs hx]
    have hl := stepT_lt own x
    rw [ho] at hl
    refine orth_all ho hs h j _ hl (orbit_orth.mpr fun i hi => ?_)
    rw [← dot_it ho hs hx]
    rcases Nat.lt_or_ge (i + 1) n with z | z
    · exact orbit_orth.mp ox _ z
    · have : i + 1 = n := by omega
      rw [this]
      exact orth_end h ox
/-- from n on nothing new is told -/
theorem orth_late (ho : own.length = k) (hs : s < 2 ^ k) {n m x : Nat} (h : toldAt (turned own own.length) s n = 0) (hm : n ≤ m) (hx : x < 2 ^ k) : Orth (orbit (turned own own.length) s m) x ↔ Orth (orbit (turned own own.length) s n) x := by
  constructor
  · intro z
    exact orbit_orth.mpr fun j hj => orbit_orth.mp z j (by omega)
  · intro z
    exact orbit_orth.mpr fun j hj => orth_all ho hs h j x hx z
end
/-! ### unlike keys -/
section
variable {κ : Type} [DecidableEq κ]
def seenG (ks : List κ) : List κ := ks.foldl (fun acc k => if k ∈ acc then acc else acc ++ [k]) []
theorem seenG_snoc (ks : List κ) (k : κ) : seenG (ks ++ [k]) = if k ∈ seenG ks then seenG ks else seenG ks ++ [k] := by
  unfold seenG
  rw [List.foldl_append]
  rfl
theorem rev_ind {P : List κ → Prop} (h0 : P []) (h1 : ∀ l a, P l → P (l ++ [a])) (l : List κ) : P l := by
  have : ∀ l : List κ, P l.reverse := by
    intro l
    induction l with
    | nil => exact h0
    | cons a l ih => rw [List.reverse_cons]; exact h1 _ _ ih
  have e := this l.reverse
  rw [List.reverse_reverse] at e
  exact e
theorem mem_seenG {k : κ} (ks : List κ) : k ∈ seenG ks ↔ k ∈ ks := by
  refine rev_ind (P := fun ks => k ∈ seenG ks ↔ k ∈ ks) Iff.rfl (fun l a ih => ?_) ks
  rw [seenG_snoc]
  split
  · rename_i h
    rw [ih, List.mem_append, List.mem_singleton]
    refine ⟨.inl, fun z => ?_⟩
    rcases z with z | rfl
    · exact z
    · exact ih.mp h
  · rw [List.mem_append, List.mem_append, ih]
theorem seenG_nodup (ks : List κ) : (seenG ks).Nodup := by
  refine rev_ind (P := fun ks => (seenG ks).Nodup) List.nodup_nil (fun l a ih => ?_) ks
  rw [seenG_snoc]
  split
  · exact ih
  · rename_i h
    refine List.nodup_append.mpr ⟨ih, List.pairwise_singleton _ _, fun x hx y hy e => ?_⟩
    cases List.mem_singleton.mp hy
    exact h (e ▸ hx)
theorem seenG_map {β : Type} [DecidableEq β] (f : κ → β) (hf : ∀ a b, f a = f b → a = b) (ks : List κ) : seenG (ks.map f) = (seenG ks).map f := by
  refine rev_ind (P := fun ks => seenG (ks.map f) = (seenG ks).map f) rfl (fun l a ih => ?_) ks
  rw [List.map_append, List.map_singleton, seenG_snoc, seenG_snoc, ih]
  by_cases h : a ∈ seenG l
  · rw [if_pos h, if_pos (List.mem_map.mpr ⟨a, h, rfl⟩)]
  · rw [if_neg h, if_neg, List.map_append]
    · rfl
    · intro z
      obtain ⟨b, hb, e⟩ := List.mem_map.mp z
      exact h (hf _ _ e ▸ hb)
theorem sum_count (ds : List κ) (hd : ds.Nodup) : ∀ ks : List κ, (∀ k ∈ ks, k ∈ ds) → (ds.map fun d => ks.countP fun k => decide (k = d)).sum = ks.length
  | [], _ => by
    simp only [List.countP_nil, List.length_nil]
    clear hd
    induction ds with
    | nil => rfl
    | cons a ds ih => rw [List.map_cons, List.sum_cons, ih (fun k hk => by cases hk)]
  | a :: ks, h => by
    have ih := sum_count ds hd ks fun k hk => h k (List.mem_cons_of_mem _ hk)
    have ha := h a List.mem_cons_self
    rw [List.length_cons, ← ih]
    clear ih h
    induction ds with
    | nil => cases ha
    | cons d ds ih2 =>
      obtain ⟨n1, n2⟩ := List.nodup_cons.mp hd
      rw [List.map_cons, List.map_cons, List.sum_cons, List.sum_cons, List.countP_cons]
      by_cases e : a = d
      · subst e
        have : (ds.map fun d => (a :: ks).countP fun k => decide (k = d)) = ds.map fun d => ks.countP fun k => decide (k = d) := by
          refine List.map_congr_left fun x hx => ?_
          rw [List.countP_cons, if_neg]
          · rfl
          · intro z
            have z := of_decide_eq_true z
            subst z
            exact n1 hx
        rw [this, if_pos (decide_eq_true rfl)]
        omega
      · rw [if_neg (by simpa using e), ih2 n2 ((List.mem_cons.mp ha).resolve_left e)]
        omega
theorem sum_const {α : Type} (f : α → Nat) (c : Nat) : ∀ l : List α, (∀ x ∈ l, f x = c) → (l.map f).sum = l.length * c
  | [], _ => by simp
  | a :: l, h => by
    rw [List.map_cons, List.sum_cons, sum_const f c l fun x hx => h x (List.mem_cons_of_mem _ hx), h a List.mem_cons_self, List.length_cons, Nat.add_mul, Nat.one_mul]
    omega
theorem seen_count {ks : List κ} {c : Nat} (h : ∀ d ∈ ks, ks.countP (fun k => decide (k = d)) = c) : (seenG ks).length * c = ks.length := by
  rw [← sum_count (seenG ks) (seenG_nodup ks) ks fun k hk => (mem_seenG ks).mpr hk]
  exact (sum_const _ c _ fun x hx => h x ((mem_seenG ks).mp hx)).symm
end
/-! ### rows read from the other end -/
def revB (n a : Nat) : Nat := ofB n fun p => a.testBit (n - 1 - p)
theorem revB_lt (n a : Nat) : revB n a < 2 ^ n := ofB_lt _ _
theorem revB_bit (n a i : Nat) : (revB n a).testBit i = (decide (i < n) && a.testBit (n - 1 - i)) := ofB_bit _ _ _
theorem revB_rev {n a : Nat} (h : a < 2 ^ n) : revB n (revB n a) = a := by
  apply Nat.eq_of_testBit_eq
  intro i
  rw [revB_bit, revB_bit]
  by_cases c : i < n
  · rw [decide_eq_true c, Bool.true_and, decide_eq_true (by omega), Bool.true_and]
    congr 1
    omega
  · rw [decide_eq_false c, Bool.false_and]
    exact (Nat.testBit_lt_two_pow (Nat.lt_of_lt_of_le h (Nat.pow_le_pow_right (by decide) (by omega)))).symm
theorem rowAt_rev (n a : Nat) : rowAt n a = standOf (revB n a) n := by
  unfold rowAt standOf
  refine List.map_congr_left fun l hl => ?_
  have := List.mem_range.mp hl
  rw [revB_bit, decide_eq_true this, Bool.true_and]
theorem xor_eq_zero' {a b : Nat} : a ^^^ b = 0 → a = b := fun h => by
  have : (a ^^^ b) ^^^ b = b := by rw [h, Nat.zero_xor]
  rw [Nat.xor_assoc, Nat.xor_self, Nat.xor_zero] at this
  exact this
/-- stands that are alike for a base -/
def Alike (base : List Nat) (a b : Nat) : Prop := Orth base (a ^^^ b)
theorem alike_key {base : List Nat} {a b : Nat} : Alike base a b ↔ keyB base a = keyB base b := by
  unfold Alike Orth keyB
  constructor
  · intro h
    refine List.map_congr_left fun x hx => ?_
    have := h x hx
    rw [dot_xr] at this
    cases e1 : dot x a <;> cases e2 : dot x b <;> simp_all
  · intro h x hx
    have := (List.map_inj_left.mp h) x hx
    rw [dot_xr, this, Bool.xor_self]
/-- so many are alike -/
theorem alike_count {k : Nat} {base : List Nat} (h : Straight k base) {a : Nat} (p : Nat → Bool) (hp : ∀ b, b < 2 ^ k → (p b = true ↔ Alike base (revB k b) (revB k a))) : (List.range (2 ^ k)).countP p * 2 ^ base.length = 2 ^ k := by
  refine Eq.trans ?_ (count_key h (keyB base (revB k a)) (by unfold keyB; rw [List.length_map]))
  congr 1
  refine Eq.trans ?_ (count_flip (revB k) (fun x _ => revB_lt k x) (fun x hx => revB_rev hx) _)
  refine List.countP_congr fun b hb => ?_
  rw [hp b (List.mem_range.mp hb), alike_key, beq_iff_eq]
theorem alike_count' {k : Nat} {base : List Nat} (h : Straight k base) {a : Nat} (p : Nat → Bool) (hp : ∀ b, b < 2 ^ k → (p b = true ↔ Alike base b a)) : (List.range (2 ^ k)).countP p * 2 ^ base.length = 2 ^ k := by
  refine Eq.trans ?_ (count_key h (keyB base a) (by unfold keyB; rw [List.length_map]))
  congr 1
  refine List.countP_congr fun b hb => ?_
  rw [hp b (List.mem_range.mp hb), alike_key, beq_iff_eq]
theorem pow_cancel {c r k : Nat} (h : c * 2 ^ r = 2 ^ k) (hr : r ≤ k) : c = 2 ^ (k - r) := by
  have e : 2 ^ k = 2 ^ (k - r) * 2 ^ r := by rw [← Nat.pow_add]; congr 1; omega
  rw [e] at h
  exact Nat.eq_of_mul_eq_mul_right (Nat.two_pow_pos r) h
/-- so many unlike keys -/
theorem many_keys {κ : Type} [DecidableEq κ] {k : Nat} {base : List Nat} (h : Straight k base) (f : Nat → κ) (hf : ∀ a b, a < 2 ^ k → b < 2 ^ k → (f b = f a ↔ Alike base (revB k b) (revB k a))) : (seenG ((List.range (2 ^ k)).map f)).length = 2 ^ base.length := by
  have hr := straight_len h
  have e := seen_count (ks := (List.range (2 ^ k)).map f) (c := 2 ^ (k - base.length)) fun d hd => by
    obtain ⟨a, ha, rfl⟩ := List.mem_map.mp hd
    rw [List.countP_map]
    exact pow_cancel (alike_count h (a := a) _ fun b hb => by simpa using hf a b (List.mem_range.mp ha) hb) hr
  rw [List.length_map, List.length_range] at e
  have e2 : 2 ^ k = 2 ^ base.length * 2 ^ (k - base.length) := by rw [← Nat.pow_add]; congr 1; omega
  exact Nat.eq_of_mul_eq_mul_right (Nat.two_pow_pos _) (e.trans e2)
end K13
set_option linter.all false
/-! MD: what tables tell, what machines of sums do. -/
namespace K13
def refV (t : List Bool) (r : Nat) : Bool := (t.getD (r / 2) false ^^ decide (r % 2 = 1))
def gateV (t : List Bool) : Gate → Bool
  | .and rs => rs.all (refV t)
  | .xor a b => (refV t a ^^ refV t b)
/-- the values of all nodes at a row -/
def vals (x : Nat → Bool) (m : Nat) (gs : List Gate) : List Bool := gs.foldl (fun t g => t ++ [gateV t g]) ((List.range m).map x)
theorem vals_snoc (x : Nat → Bool) (m : Nat) (gs : List Gate) (g : Gate) : vals x m (gs ++ [g]) = vals x m gs ++ [gateV (vals x m gs) g] := by
  unfold vals
  rw [List.foldl_append]
  rfl
theorem fold_app {t0 : List Bool} : ∀ (gs : List Gate) (t : List Bool), ∃ u, gs.foldl (fun t g => t ++ [gateV t g]) t = t ++ u
  | [], t => ⟨[], (List.append_nil t).symm⟩
  | g :: gs, t => by
    obtain ⟨u, e⟩ := fold_app (t0 := t0) gs (t ++ [gateV t g])
    exact ⟨[gateV t g] ++ u, by rw [List.foldl_cons, e, List.append_assoc]⟩
theorem vals_app (x : Nat → Bool) (m : Nat) (gs hs : List Gate) : ∃ u, vals x m (gs ++ hs) = vals x m gs ++ u := by
  unfold vals
  rw [List.foldl_append]
  exact fold_app (t0 := []) hs _
theorem vals_len (x : Nat → Bool) (m : Nat) (gs : List Gate) : (vals x m gs).length = m + gs.length := by
  refine rev_ind' gs
where
  rev_ind' (gs : List Gate) : (vals x m gs).length = m + gs.length := by
    have : ∀ l : List Gate, (vals x m l.reverse).length = m + l.length := by
      intro l
      induction l with
      | nil => simp [vals]
      | cons a l ih => rw [List.reverse_cons, vals_snoc, List.length_append, ih, List.length_cons]; simp; omega
    have e := this gs.reverse
    rw [List.reverse_reverse, List.length_reverse] at e
    exact e
theorem refV_app {t u : List Bool} {r : Nat} (h : r / 2 < t.length) : refV (t ++ u) r = refV t r := by
  unfold refV
  rw [List.getD_eq_getElem?_getD, List.getElem?_append_left h, List.getD_eq_getElem?_getD]
theorem full_bit {m i : Nat} (h : i < 2 ^ m) : (fullT m).testBit i = true := by
  unfold fullT
  rw [Nat.testBit_two_pow_sub_one]
  exact decide_eq_true h
theorem refT_bit {tabs : List Nat} {full r i : Nat} (h : full.testBit i = true) : (refT tabs full r).testBit i = refV (tabs.map fun t => t.testBit i) r := by
  unfold refT refV
  rw [Nat.testBit_xor]
  congr 1
  · rw [List.getD_eq_getElem?_getD, List.getD_eq_getElem?_getD, List.getElem?_map]
    cases tabs[r / 2]? with
    | none => exact Nat.zero_testBit _
    | some v => rfl
  · by_cases e : r % 2 = 1
    · rw [if_pos e, h, decide_eq_true e]
    · rw [if_neg e, Nat.zero_testBit, decide_eq_false e]
theorem gateT_bit {tabs : List Nat} {full i : Nat} (h : full.testBit i = true) : ∀ g : Gate, (gateT full tabs g).testBit i = gateV (tabs.map fun t => t.testBit i) g
  | .xor a b => by
    show (refT tabs full a ^^^ refT tabs full b).testBit i = _
    rw [Nat.testBit_xor, refT_bit h, refT_bit h]
    rfl
  | .and rs => by
    show (rs.foldl (fun t r => t &&& refT tabs full r) full).testBit i = rs.all (refV _)
    have go : ∀ (rs : List Nat) (a : Nat), (rs.foldl (fun t r => t &&& refT tabs full r) a).testBit i = (a.testBit i && rs.all (refV (tabs.map fun t => t.testBit i))) := by
      intro rs
      induction rs with
      | nil => intro a; simp
      | cons r rs ih => intro a; rw [List.foldl_cons, ih, Nat.testBit_and, refT_bit h, List.all_cons, Bool.and_assoc]
    rw [go, h, Bool.true_and]
theorem tabs_bit {m i : Nat} (h : i < 2 ^ m) (gs : List Gate) : (tabsOf m gs).map (fun t => t.testBit i) = vals (fun l => i.testBit (m - 1 - l)) m gs := by
  unfold tabsOf vals
  have go : ∀ (gs : List Gate) (t : List Nat), (gs.foldl (fun t g => t ++ [gateT (fullT m) t g]) t).map (fun t => t.testBit i) = gs.foldl (fun t g => t ++ [gateV t g]) (t.map fun t => t.testBit i) := by
    intro gs
    induction gs with
    | nil => intro t; rfl
    | cons g gs ih => intro t; rw [List.foldl_cons, ih, List.foldl_cons, List.map_append, List.map_singleton, gateT_bit (full_bit h)]
  rw [go, List.map_map]
  congr 1
  refine List.map_congr_left fun l hl => ?_
  show (leafTab m l).testBit i = _
  rw [leafTab_bit (List.mem_range.mp hl), decide_eq_true h, Bool.true_and]
theorem ref_at {m i : Nat} (h : i < 2 ^ m) (gs : List Gate) (r : Nat) : (refT (tabsOf m gs) (fullT m) r).testBit i = refV (vals (fun l => i.testBit (m - 1 - l)) m gs) r := by
  rw [refT_bit (full_bit h), tabs_bit h]
/-! ### sums -/
def xl (l : List Bool) : Bool := l.foldr xor false
theorem xl_app (a b : List Bool) : xl (a ++ b) = (xl a ^^ xl b) := by
  induction a with
  | nil => exact (Bool.false_xor _).symm
  | cons x a ih => show (x ^^ xl (a ++ b)) = ((x ^^ xl a) ^^ xl b); rw [ih, Bool.xor_assoc]
theorem xl_one (a : Bool) : xl [a] = a := Bool.xor_false a
theorem xl_filter (p f : Nat → Bool) : ∀ n, xl (((List.range n).filter p).map f) = px n fun i => (p i && f i)
  | 0 => rfl
  | n + 1 => by
    rw [List.range_succ, List.filter_append, List.map_append, xl_app, xl_filter p f n, px]
    congr 1
    by_cases h : p n = true
    · rw [List.filter_cons_of_pos h, h]
      exact xl_one _
    · rw [List.filter_cons_of_neg h, Bool.eq_false_iff.mpr h]
      rfl
theorem gate0_val (x : Nat → Bool) (m : Nat) (gs : List Gate) : (vals x m (gate0 :: gs)).getD m false = true := by
  obtain ⟨u, e⟩ := vals_app x m [gate0] gs
  have e2 : vals x m [gate0] = (List.range m).map x ++ [true] := rfl
  rw [show gate0 :: gs = [gate0] ++ gs from rfl, e, e2, List.append_assoc, List.getD_eq_getElem?_getD, List.getElem?_append_right (by simp)]
  simp
theorem leaf_val (x : Nat → Bool) {m f : Nat} (gs : List Gate) (h : f < m) : refV (vals x m gs) (2 * f) = x f := by
  obtain ⟨u, e⟩ := vals_app x m [] gs
  rw [List.nil_append] at e
  have e2 : vals x m [] = (List.range m).map x := rfl
  rw [e, e2, refV_app (by rw [List.length_map, List.length_range]; omega)]
  unfold refV
  rw [show 2 * f / 2 = f by omega, List.getD_eq_getElem?_getD, List.getElem?_map, List.getElem?_range h, decide_eq_false (by omega)]
  exact Bool.xor_false _
theorem sumOf_snoc' (leaves : Nat) (gs : List Gate) (refs : List Nat) (r : Nat) : sumOf leaves gs (refs ++ [r]) = sumStep leaves (sumOf leaves gs refs) r := by
  unfold sumOf
  rw [List.foldl_append]
  rfl
theorem sum_val (x : Nat → Bool) (m : Nat) (gs : List Gate) (fs : List Nat) (h : ∀ f ∈ fs, f < m) : ∃ hs, (sumOf m (gate0 :: gs) (fs.map fun f => 2 * f)).1 = gate0 :: gs ++ hs ∧ (sumOf m (gate0 :: gs) (fs.map fun f => 2 * f)).2 / 2 < m + (gate0 :: gs ++ hs).length ∧
    refV (vals x m (sumOf m (gate0 :: gs) (fs.map fun f => 2 * f)).1) (sumOf m (gate0 :: gs) (fs.map fun f => 2 * f)).2 = xl (fs.map x) := by
  revert h
  refine rev_ind (P := fun fs => (∀ f ∈ fs, f < m) → ∃ hs, (sumOf m (gate0 :: gs) (fs.map fun f => 2 * f)).1 = gate0 :: gs ++ hs ∧ (sumOf m (gate0 :: gs) (fs.map fun f => 2 * f)).2 / 2 < m + (gate0 :: gs ++ hs).length ∧ refV (vals x m (sumOf m (gate0 :: gs) (fs.map fun f => 2 * f)).1) (sumOf m (gate0 :: gs) (fs.map fun f => 2 * f)).2 = xl (fs.map x)) ?_ ?_ fs
  · intro _
    refine ⟨[], (List.append_nil _).symm, ?_, ?_⟩
    · show (2 * m + 1) / 2 < _
      simp only [List.append_nil, List.length_cons]
      omega
    · show refV (vals x m (gate0 :: gs)) (2 * m + 1) = false
      unfold refV
      rw [show (2 * m + 1) / 2 = m by omega, gate0_val, decide_eq_true (by omega)]
      rfl
  · intro fs f ih h
    obtain ⟨hs, e1, e2, e3⟩ := ih fun f hf => h f (List.mem_append_left _ hf)
    have hf := h f (List.mem_append_right _ (List.mem_singleton.mpr rfl))
    rw [List.map_append, List.map_singleton, sumOf_snoc', List.map_append, List.map_singleton, xl_app, xl_one]
    generalize sumOf m (gate0 :: gs) (fs.map fun f => 2 * f) = s at *
    obtain ⟨g, r⟩ := s
    dsimp only at e1 e2 e3
    unfold sumStep
    split
    · rename_i c
      dsimp only at c
      refine ⟨hs, e1, ?_, ?_⟩
      · rw [List.length_append]
        show 2 * f / 2 < _
        omega
      · show refV (vals x m g) (2 * f) = _
        rw [leaf_val x g hf, ← e3, c, e1]
        have : refV (vals x m (gate0 :: gs ++ hs)) (2 * m + 1) = false := by
          unfold refV
          rw [show (2 * m + 1) / 2 = m by omega, show gate0 :: gs ++ hs = gate0 :: (gs ++ hs) from rfl, gate0_val, decide_eq_true (by omega)]
          rfl
        rw [this, Bool.false_xor]
    · refine ⟨hs ++ [.xor r (2 * f)], ?_, ?_, ?_⟩
      · show g ++ [Gate.xor r (2 * f)] = _
        rw [e1, List.append_assoc]
      · show 2 * (m + g.length) / 2 < _
        rw [← List.append_assoc, List.length_append, ← e1]
        simp only [List.length_cons, List.length_nil]
        omega
      · show refV (vals x m (g ++ [Gate.xor r (2 * f)])) (2 * (m + g.length)) = _
        rw [vals_snoc]
        unfold refV
        rw [show 2 * (m + g.length) / 2 = (vals x m g).length by rw [vals_len]; omega, List.getD_eq_getElem?_getD, List.getElem?_append_right (Nat.le_refl _), Nat.sub_self, decide_eq_false (by omega), Bool.xor_false]
        show (refV (vals x m g) r ^^ refV (vals x m g) (2 * f)) = _
        rw [leaf_val x g hf, e3]
theorem xl_bits {n : Nat} (hn : n < 2 ^ 20) (x : Nat → Bool) : xl ((bitsN n).map x) = px 20 fun i => (n.testBit i && x i) := xl_filter _ _ 20
theorem bit_high {n k i : Nat} (h : n < 2 ^ k) (hi : k ≤ i) : n.testBit i = false :=
  Nat.testBit_lt_two_pow (Nat.lt_of_lt_of_le h (Nat.pow_le_pow_right (by decide) hi))
theorem bits_lt' {n k : Nat} (h : n < 2 ^ k) : ∀ i ∈ bitsN n, i < k := by
  intro i hi
  apply Nat.lt_of_not_le
  intro z
  have := (List.mem_filter.mp hi).2
  rw [bit_high h z] at this
  cases this
theorem xl_dot {n k : Nat} (hn : n < 2 ^ k) (hk : k ≤ 20) (x : Nat → Bool) {y : Nat} (hx : ∀ i, i < k → x i = y.testBit i) : xl ((bitsN n).map x) = dot n y := by
  have h20 : n < 2 ^ 20 := Nat.lt_of_lt_of_le hn (Nat.pow_le_pow_right (by decide) hk)
  rw [xl_bits h20, dot_px h20]
  refine px_congr _ fun i hi => ?_
  by_cases c : i < k
  · rw [hx i c]
  · rw [bit_high hn (by omega)]
    rfl
/-- a shown sum's table -/
theorem said_bit {held row st : Nat} (t : Bool) (h : held ≤ 16) (hr : row < 2 ^ held) (hs : st < 2 ^ held) : (sayT held (saidS held row).1 (turn t (saidS held row).2)).testBit st = (dot row (revB held st) ^^ t) := by
  unfold sayT
  rw [ref_at hs]
  obtain ⟨hs', e1, e2, e3⟩ := sum_val (fun l => st.testBit (held - 1 - l)) held [] (bitsN row) (bits_lt' hr)
  unfold saidS
  rw [xl_dot hr (by omega) _ (y := revB held st) fun i hi => by rw [revB_bit, decide_eq_true hi, Bool.true_and]] at e3
  rw [← e3]
  generalize vals _ held (sumOf held [gate0] ((bitsN row).map fun f => 2 * f)).1 = v
  generalize (sumOf held [gate0] ((bitsN row).map fun f => 2 * f)).2 = r
  unfold refV turn
  cases t
  · simp
  · have h1 : (r ^^^ 1) / 2 = r / 2 := by
      apply Nat.eq_of_testBit_eq
      intro j
      rw [← Nat.testBit_succ, ← Nat.testBit_succ, Nat.testBit_xor]
      have : (1 : Nat).testBit (j + 1) = false := by rw [Nat.testBit_succ]; simp
      rw [this, Bool.xor_false]
    have h2 : (decide ((r ^^^ 1) % 2 = 1)) = !(decide (r % 2 = 1)) := by
      have e := Nat.testBit_xor r 1 0
      rw [Nat.testBit_zero, Nat.testBit_zero, Nat.testBit_zero] at e
      rw [e]
      cases decide (r % 2 = 1) <;> rfl
    rw [if_pos rfl, h1, h2]
    cases v.getD (r / 2) false <;> cases decide (r % 2 = 1) <;> rfl
/-! ### machines of sums -/
theorem two_map (held : Nat) (a b : List Nat) : a.map (fun f => 2 * f) ++ b.map (fun f => 2 * (held + f)) = (a ++ b.map (held + ·)).map fun f => 2 * f := by
  rw [List.map_append, List.map_map]
  rfl
structure SG (x : Nat → Bool) (m : Nat) (want : Nat → Bool) (j : Nat) (g : List Gate × List Nat) : Prop where
  head : ∃ r, g.1 = gate0 :: r
  len : g.2.length = j
  ref : ∀ k, k < j → g.2.getD k 0 / 2 < m + g.1.length
  val : ∀ k, k < j → refV (vals x m g.1) (g.2.getD k 0) = want k
theorem getD_map0 {l : List Nat} {k : Nat} (f : Nat → List Nat) (h : k < l.length) : (l.map f).getD k [] = f (l.getD k 0) := by
  rw [List.getD_eq_getElem?_getD, List.getElem?_map, List.getElem?_eq_getElem h, List.getD_eq_getElem?_getD, List.getElem?_eq_getElem h]
  rfl
theorem getD_mem0 {l : List Nat} {k : Nat} (h : k < l.length) : l.getD k 0 ∈ l := by
  rw [List.getD_eq_getElem?_getD, List.getElem?_eq_getElem h]
  exact List.getElem_mem h
theorem sums_val {held free : Nat} {own put : List Nat} (ok : NumsOk held free own put) (x : Nat → Bool) {a b : Nat} (ha : ∀ i, i < held → x i = a.testBit i) (hb : ∀ i, i < free → x (held + i) = b.testBit i) : ∀ j, j ≤ held → SG x (held + free) (fun k => (dot (own.getD k 0) a ^^ dot (put.getD k 0) b)) j (sumsGo held free (own.map bitsN) (put.map bitsN) j)
  | 0, _ => ⟨⟨[], rfl⟩, rfl, fun k hk => by omega, fun k hk => by omega⟩
  | j + 1, hj => by
    have ih := sums_val ok x ha hb j (by omega)
    show SG _ _ _ _ ((sumOf (held + free) (sumsGo held free (own.map bitsN) (put.map bitsN) j).1 (kRefs held (own.map bitsN) (put.map bitsN) j)).1, (sumsGo held free (own.map bitsN) (put.map bitsN) j).2 ++ [(sumOf (held + free) (sumsGo held free (own.map bitsN) (put.map bitsN) j).1 (kRefs held (own.map bitsN) (put.map bitsN) j)).2])
    generalize sumsGo held free (own.map bitsN) (put.map bitsN) j = g at *
    obtain ⟨gs, ss⟩ := g
    obtain ⟨⟨r, hr⟩, hl, href, hval⟩ := ih
    dsimp only at hr hl href hval
    subst hr
    have ho : own.getD j 0 < 2 ^ held := ok.own _ (getD_mem0 (by rw [ok.lo]; omega))
    have hp : put.getD j 0 < 2 ^ free := ok.put _ (getD_mem0 (by rw [ok.lp]; omega))
    unfold kRefs
    rw [getD_map0 _ (by rw [ok.lo]; omega), getD_map0 _ (by rw [ok.lp]; omega), two_map]
    obtain ⟨hs, e1, e2, e3⟩ := sum_val x (held + free) r (bitsN (own.getD j 0) ++ (bitsN (put.getD j 0)).map (held + ·)) fun f hf => by
      rcases List.mem_append.mp hf with hf | hf
      · have := bits_lt' ho f hf
        omega
      · obtain ⟨i, hi, rfl⟩ := List.mem_map.mp hf
        have := bits_lt' hp i hi
        omega
    generalize sumOf (held + free) (gate0 :: r) ((bitsN (own.getD j 0) ++ (bitsN (put.getD j 0)).map (held + ·)).map fun f => 2 * f) = s at *
    obtain ⟨g2, r2⟩ := s
    dsimp only at e1 e2 e3 ⊢
    subst e1
    have hlen : (ss ++ [r2]).length = j + 1 := by rw [List.length_append, hl]; rfl
    have hold : ∀ k, k < j → (ss ++ [r2]).getD k 0 = ss.getD k 0 := fun k hk => by
      rw [List.getD_eq_getElem?_getD, List.getElem?_append_left (by omega), List.getD_eq_getElem?_getD]
    have hnew : (ss ++ [r2]).getD j 0 = r2 := by
      rw [List.getD_eq_getElem?_getD, List.getElem?_append_right (by omega), hl, Nat.sub_self]
      rfl
    refine ⟨⟨r ++ hs, rfl⟩, hlen, fun k hk => ?_, fun k hk => ?_⟩
    · by_cases c : k < j
      · show (ss ++ [r2]).getD k 0 / 2 < _
        rw [hold k c]
        have := href k c
        dsimp only
        rw [List.length_append]
        omega
      · have : k = j := by omega
        subst this
        show (ss ++ [r2]).getD k 0 / 2 < _
        rw [hnew]
        exact e2
    · by_cases c : k < j
      · show refV _ ((ss ++ [r2]).getD k 0) = _
        rw [hold k c]
        obtain ⟨u, eu⟩ := vals_app x (held + free) (gate0 :: r) hs
        show refV (vals x (held + free) (gate0 :: r ++ hs)) _ = _
        rw [eu, refV_app (by rw [vals_len]; exact href k c)]
        exact hval k c
      · have : k = j := by omega
        subst this
        show refV _ ((ss ++ [r2]).getD k 0) = _
        rw [hnew]
        refine e3.trans ?_
        rw [List.map_append, List.map_map, xl_app, xl_dot ho (by have := ok.h1; omega) x ha, xl_dot hp (by have := ok.h2; omega) (x ∘ (held + ·)) hb]
def bigE (bs : List Bool) : Nat := bs.foldl (fun l b => 2 * l + b.toNat) 0
theorem bigE_snoc (bs : List Bool) (b : Bool) : bigE (bs ++ [b]) = 2 * bigE bs + b.toNat := by
  unfold bigE
  rw [List.foldl_append]
  rfl
theorem bigE_bit (bs : List Bool) : ∀ i, (bigE bs).testBit i = bs.reverse.getD i false := by
  refine rev_ind (P := fun bs => ∀ i, (bigE bs).testBit i = bs.reverse.getD i false) (fun i => by exact Nat.zero_testBit i) (fun bs b ih i => ?_) bs
  rw [bigE_snoc, List.reverse_append]
  cases i with
  | zero =>
    rw [Nat.testBit_zero]
    cases b <;> simp <;> omega
  | succ i =>
    rw [Nat.testBit_succ, show (2 * bigE bs + b.toNat) / 2 = bigE bs by cases b <;> simp <;> omega, ih]
    rfl
theorem bigE_lt (bs : List Bool) : bigE bs < 2 ^ bs.length := by
  refine rev_ind (P := fun bs => bigE bs < 2 ^ bs.length) Nat.zero_lt_one (fun bs b ih => ?_) bs
  rw [bigE_snoc, List.length_append, List.length_singleton, Nat.pow_succ]
  cases b <;> simp <;> omega
theorem later_bigE (M : Mach) {idx : Nat} : M.later idx = bigE (M.steps.map fun r => (refT M.tabs M.full r).testBit idx) := by
  unfold Mach.later bigE
  rw [List.foldl_map]
  congr 1
  funext l r
  congr 1
  rw [Nat.and_one_is_mod, Nat.testBit_eq_decide_div_mod_eq, Nat.shiftRight_eq_div_pow]
  rcases Nat.mod_two_eq_zero_or_one (refT M.tabs M.full r / 2 ^ idx) with e | e <;> rw [e] <;> rfl
section
variable {held free : Nat} {own put : List Nat} (ok : NumsOk held free own put)
theorem idx_lt {st mv : Nat} (hs : st < 2 ^ held) (hm : mv < 2 ^ free) : st * 2 ^ free + mv < 2 ^ (held + free) := by
  rw [Nat.pow_add]
  calc st * 2 ^ free + mv < st * 2 ^ free + 2 ^ free := by omega
    _ = (st + 1) * 2 ^ free := by rw [Nat.add_mul, Nat.one_mul]
    _ ≤ 2 ^ held * 2 ^ free := Nat.mul_le_mul_right _ hs
theorem idx_bit {st mv i : Nat} (hm : mv < 2 ^ free) : (st * 2 ^ free + mv).testBit i = if i < free then mv.testBit i else st.testBit (i - free) := by
  rw [Nat.mul_comm, Nat.testBit_two_pow_mul_add st hm]
include ok in
theorem made_at {start : _} {st mv : Nat} (hs : st < 2 ^ held) (hm : mv < 2 ^ free) : SG (fun l => (st * 2 ^ free + mv).testBit (held + free - 1 - l)) (held + free) (fun k => (dot (own.getD k 0) (revB held st) ^^ dot (put.getD k 0) (revB free mv))) held ((madeM held free own put start).gates, (madeM held free own put start).steps) := by
  refine sums_val ok _ (fun i hi => ?_) (fun i hi => ?_) held (Nat.le_refl _)
  · rw [idx_bit hm, if_neg (by omega), revB_bit, decide_eq_true hi, Bool.true_and]
    congr 1
    omega
  · rw [idx_bit hm, if_pos (by omega), revB_bit, decide_eq_true hi, Bool.true_and]
    congr 1
    omega
include ok in
/-- where a move leads -/
theorem made_later {start : _} {st mv : Nat} (hs : st < 2 ^ held) (hm : mv < 2 ^ free) : (madeM held free own put start).later (st * 2 ^ free + mv) < 2 ^ held ∧
    revB held ((madeM held free own put start).later (st * 2 ^ free + mv)) = stepT own (revB held st) ^^^ stepT put (revB free mv) := by
  have h := made_at ok (start := start) hs hm
  have hsl : (madeM held free own put start).steps.length = held := h.len
  rw [later_bigE]
  refine ⟨by have := bigE_lt ((madeM held free own put start).steps.map fun r => (refT (madeM held free own put start).tabs (madeM held free own put start).full r).testBit (st * 2 ^ free + mv)); rw [List.length_map, hsl] at this; exact this, ?_⟩
  apply Nat.eq_of_testBit_eq
  intro k
  rw [revB_bit, Nat.testBit_xor, stepT_ofB, stepT_ofB, ofB_bit, ofB_bit, ok.lo, ok.lp]
  by_cases hk : k < held
  · rw [decide_eq_true hk, Bool.true_and, Bool.true_and, Bool.true_and, bigE_bit, ← h.val k hk]
    rw [List.getD_eq_getElem?_getD, List.getElem?_reverse (by rw [List.length_map, hsl]; omega), List.length_map, hsl, List.getElem?_map, show held - 1 - (held - 1 - k) = k by omega]
    dsimp only
    rw [List.getElem?_eq_getElem (by omega), List.getD_eq_getElem?_getD, List.getElem?_eq_getElem (by omega)]
    exact ref_at (idx_lt hs hm) _ _
  · rw [decide_eq_false hk]
    rfl
include ok in
theorem made_lets {start : _} {i : Nat} (hi : i < 2 ^ (held + free)) : (refT (madeM held free own put start).tabs (madeM held free own put start).full (madeM held free own put start).lt).testBit i = true := by
  show (refT (tabsOf (held + free) _) (fullT (held + free)) (2 * (held + free))).testBit i = true
  rw [ref_at hi]
  have h := sums_val ok (fun _ => false) (a := 0) (b := 0) (fun i _ => (Nat.zero_testBit i).symm) (fun i _ => (Nat.zero_testBit i).symm) held (Nat.le_refl _)
  obtain ⟨r, hr⟩ := h.head
  show refV (vals _ _ (sumsGo held free (own.map bitsN) (put.map bitsN) held).1) _ = true
  rw [hr]
  unfold refV
  rw [show 2 * (held + free) / 2 = held + free by omega, gate0_val, decide_eq_false (by omega)]
  rfl
end
end K13
set_option linter.all false
set_option maxRecDepth 100000
/-! ME: the order of rows and lots. -/
namespace K13
open PySem L2 DL PySem.W
theorem pys_bools : ∀ l : List Bool, pys (l.map D.bl) = l.map (Datum.toD (α := Bool))
  | [] => rfl
  | b :: l => by
    rw [List.map_cons, List.map_cons, ← pys_bools l]
    rfl
theorem py_row (l : List Bool) : (boolsD l).py = Datum.toD (Tup.mk l) := by
  show PyData.tuple (pys (l.map D.bl)) = _
  rw [pys_bools]
  rfl
def lotD (l : List (List Bool)) : D := .tup (l.map boolsD)
def tupL (l : List (List Bool)) : Tup (Tup Bool) := Tup.mk (l.map Tup.mk)
theorem pys_rows : ∀ l : List (List Bool), pys (l.map boolsD) = (l.map Tup.mk).map (Datum.toD (α := Tup Bool))
  | [] => rfl
  | b :: l => by
    rw [List.map_cons, List.map_cons, List.map_cons, ← pys_rows l, ← py_row]
    rfl
theorem py_lot (l : List (List Bool)) : (lotD l).py = Datum.toD (tupL l) := by
  show PyData.tuple (pys (l.map boolsD)) = _
  rw [pys_rows]
  rfl
theorem pys_lots : ∀ l : List (List (List Bool)), pys (l.map lotD) = (l.map tupL).map (Datum.toD (α := Tup (Tup Bool)))
  | [] => rfl
  | b :: l => by
    rw [List.map_cons, List.map_cons, List.map_cons, ← pys_lots l, ← py_lot]
    rfl
theorem leD_eq (a b : D) : leD a b = !dataLt b.py a.py := rfl
theorem leD_row (a b : List Bool) : leD (boolsD a) (boolsD b) = !listLt b a := by
  rw [leD_eq, py_row, py_row, DatumOrd.lt_eq]
  rfl
theorem leD_lot (a b : List (List Bool)) : leD (lotD a) (lotD b) = !listLt (b.map Tup.mk) (a.map Tup.mk) := by
  rw [leD_eq, py_lot, py_lot, DatumOrd.lt_eq]
  rfl
theorem listLt_tot {α : Type} [DecidableEq α] [DatumOrd α] (h : ∀ a b : α, DatumOrd.lt a b = false → DatumOrd.lt b a = false → a = b) : ∀ xs ys : List α, listLt xs ys = false → listLt ys xs = false → xs = ys
  | [], [], _, _ => rfl
  | [], _ :: _, h1, _ => by cases h1
  | _ :: _, [], _, h2 => by cases h2
  | x :: xs, y :: ys, h1, h2 => by
    unfold listLt at h1 h2
    by_cases e : x = y
    · subst e
      rw [if_pos rfl] at h1 h2
      rw [listLt_tot h xs ys h1 h2]
    · rw [if_neg e] at h1
      rw [if_neg (fun z => e z.symm)] at h2
      exact (e (h x y h1 h2)).elim
theorem bool_tot (a b : Bool) (h1 : DatumOrd.lt a b = false) (h2 : DatumOrd.lt b a = false) : a = b := by
  have h1 : (!a && b) = false := h1
  have h2 : (!b && a) = false := h2
  cases a <;> cases b <;> simp_all
theorem tupb_tot (a b : Tup Bool) (h1 : DatumOrd.lt a b = false) (h2 : DatumOrd.lt b a = false) : a = b := by
  obtain ⟨a⟩ := a
  obtain ⟨b⟩ := b
  exact congrArg Tup.mk (listLt_tot bool_tot a b h1 h2)
theorem not_true {b : Bool} (h : (!b) = true) : b = false := by cases b <;> simp_all
theorem row_anti {a b : List Bool} (h1 : leD (boolsD a) (boolsD b) = true) (h2 : leD (boolsD b) (boolsD a) = true) : a = b := by
  rw [leD_row] at h1 h2
  exact listLt_tot bool_tot a b (not_true h2) (not_true h1)
theorem mk_inj' {a b : List (List Bool)} (h : a.map Tup.mk = b.map Tup.mk) : a = b := by
  induction a generalizing b with
  | nil => cases b with
    | nil => rfl
    | cons y b => cases h
  | cons x a ih => cases b with
    | nil => cases h
    | cons y b =>
      rw [List.map_cons, List.map_cons] at h
      injection h with h1 h2
      injection h1 with h1
      rw [h1, ih h2]
theorem lot_anti {a b : List (List Bool)} (h1 : leD (lotD a) (lotD b) = true) (h2 : leD (lotD b) (lotD a) = true) : a = b := by
  rw [leD_lot] at h1 h2
  exact mk_inj' (listLt_tot tupb_tot _ _ (not_true h2) (not_true h1))
theorem leD_tot : TotalLe leD := sortLe_total _ false _
theorem sortD_perm (l : List D) : (sortD l).Perm l := List.mergeSort_perm _ _
theorem sortD_pw (l : List D) : (sortD l).Pairwise (fun a b => leD a b = true) := sort_pairwise leD_tot l
theorem sort_eq {α : Type} (f : α → D) (anti : ∀ a b, leD (f a) (f b) = true → leD (f b) (f a) = true → a = b) {l : List α} {r : List D} (hp : r.Perm (l.map f)) (hr : r.Pairwise fun a b => leD a b = true) : sortD (l.map f) = r := by
  refine List.Perm.eq_of_pairwise (le := fun a b => leD a b = true) (fun a b ha hb h1 h2 => ?_) (sortD_pw _) hr ((sortD_perm _).trans hp.symm)
  obtain ⟨x, _, rfl⟩ := List.mem_map.mp ((sortD_perm _).mem_iff.mp ha)
  obtain ⟨y, _, rfl⟩ := List.mem_map.mp (hp.mem_iff.mp hb)
  rw [anti x y h1 h2]
/-- rows ascend with their numbers -/
theorem row_lt : ∀ (h : Nat) {a b : Nat}, a % 2 ^ h < b % 2 ^ h → listLt (rowAt h a) (rowAt h b) = true
  | 0, a, b, z => by rw [Nat.pow_zero, Nat.mod_one, Nat.mod_one] at z; omega
  | h + 1, a, b, z => by
    have e : ∀ c, rowAt (h + 1) c = c.testBit h :: rowAt h c := fun c => by
      unfold rowAt
      rw [List.range_succ_eq_map, List.map_cons, List.map_map]
      congr 1
      refine List.map_congr_left fun l hl => ?_
      show c.testBit (h + 1 - 1 - (l + 1)) = _
      congr 1
      omega
    rw [e, e, listLt]
    rw [Nat.mod_pow_succ, Nat.mod_pow_succ] at z
    have ha := Nat.mod_lt a (Nat.two_pow_pos h)
    have hb := Nat.mod_lt b (Nat.two_pow_pos h)
    have ea : a.testBit h = decide (a / 2 ^ h % 2 = 1) := Nat.testBit_eq_decide_div_mod_eq
    have eb : b.testBit h = decide (b / 2 ^ h % 2 = 1) := Nat.testBit_eq_decide_div_mod_eq
    rcases Nat.mod_two_eq_zero_or_one (a / 2 ^ h) with x | x <;> rcases Nat.mod_two_eq_zero_or_one (b / 2 ^ h) with y | y <;> rw [x, y] at z <;> rw [ea, eb, x, y]
    · exact row_lt h (by omega)
    · rfl
    · omega
    · exact row_lt h (by omega)
theorem rows_pw (h : Nat) (p : Nat → Bool) : ((((List.range (2 ^ h)).filter p).map (rowAt h)).map boolsD).Pairwise fun a b => leD a b = true := by
  rw [List.map_map]
  refine List.pairwise_map.mpr (((List.pairwise_lt_range).filter p).imp_of_mem fun {a b} ha hb z => ?_)
  have ha := List.mem_range.mp (List.mem_filter.mp ha).1
  have hb := List.mem_range.mp (List.mem_filter.mp hb).1
  show leD (boolsD (rowAt h a)) (boolsD (rowAt h b)) = true
  rw [leD_row]
  have l1 := row_lt h (a := a) (b := b) (by rw [Nat.mod_eq_of_lt ha, Nat.mod_eq_of_lt hb]; exact z)
  cases c : listLt (rowAt h b) (rowAt h a)
  · rfl
  · have t := leD_tot.total (boolsD (rowAt h a)) (boolsD (rowAt h b))
    rw [leD_row, leD_row, c, l1] at t
    simp at t
/-- the stands of a lot, sorted, are its rows in turn -/
theorem lot_sorted {h : Nat} (p q : Nat → Bool) (hpq : ∀ a, a < 2 ^ h → p a = q (revB h a)) : sortLot (lotD (((List.range (2 ^ h)).filter q).map fun n => standOf n h)) = lotD (((List.range (2 ^ h)).filter p).map (rowAt h)) := by
  show D.tup (sortD ((((List.range (2 ^ h)).filter q).map fun n => standOf n h).map boolsD)) = D.tup _
  congr 1
  refine sort_eq boolsD (fun a b h1 h2 => row_anti h1 h2) (List.Perm.map _ ?_) (rows_pw h p)
  have e : ((List.range (2 ^ h)).filter p).map (rowAt h) = (((List.range (2 ^ h)).filter p).map (revB h)).map fun n => standOf n h := by
    rw [List.map_map]
    exact List.map_congr_left fun a _ => rowAt_rev h a
  rw [e]
  refine List.Perm.map _ ((List.perm_ext_iff_of_nodup ?_ (List.nodup_range.filter q)).mpr fun x => ?_)
  · refine List.pairwise_map.mpr ((List.nodup_range.filter p).imp_of_mem fun {a b} ha hb z e => z ?_)
    rw [← revB_rev (List.mem_range.mp (List.mem_filter.mp ha).1), ← revB_rev (List.mem_range.mp (List.mem_filter.mp hb).1), e]
  · rw [List.mem_map, List.mem_filter, List.mem_range]
    constructor
    · rintro ⟨a, ha, rfl⟩
      obtain ⟨a1, a2⟩ := List.mem_filter.mp ha
      exact ⟨revB_lt h a, by rw [← hpq a (List.mem_range.mp a1)]; exact a2⟩
    · rintro ⟨x1, x2⟩
      exact ⟨revB h x, List.mem_filter.mpr ⟨List.mem_range.mpr (revB_lt h x), by rw [hpq _ (revB_lt h x), revB_rev x1]; exact x2⟩, revB_rev x1⟩
end K13
set_option linter.all false
set_option maxRecDepth 100000
/-! MF: what the dict of lots holds; the marks of classes. -/
namespace K13
open PySem L2 DL PySem.W
theorem seen_eq (ks : List NK) : seen ks = seenG ks := rfl
/-! ### the dict of lots -/
def entry (kvs : List (D × D)) : List (NK × D) := kvs.map fun p => (p.1.nk, p.2)
theorem lookD_entry (kvs : List (D × D)) (k : NK) : lookD kvs k = ((entry kvs).find? fun p => decide (p.1 = k)).map (·.2) := by
  unfold lookD entry
  rw [List.find?_map, Option.map_map]
  rfl
theorem find_seen (S : List NK) (g : NK → D) (k : NK) : ((S.map fun k => (k, g k)).find? fun p => decide (p.1 = k)) = if k ∈ S then some (k, g k) else none := by
  induction S with
  | nil => rfl
  | cons a S ih =>
    rw [List.map_cons, List.find?_cons]
    by_cases e : a = k
    · subst e
      rw [if_pos List.mem_cons_self]
      simp
    · rw [decide_eq_false e]
      dsimp only
      rw [ih]
      by_cases m : k ∈ S
      · rw [if_pos m, if_pos (List.mem_cons_of_mem _ m)]
      · rw [if_neg m, if_neg]
        intro z
        rcases List.mem_cons.mp z with z | z
        · exact e z.symm
        · exact m z
theorem putD_entry {kvs : List (D × D)} {S : List NK} {g : NK → D} (h : entry kvs = S.map fun k => (k, g k)) (k v : D) :
    entry (putD kvs k v) = if k.nk ∈ S then S.map fun k' => (k', if k' = k.nk then v else g k') else S.map (fun k => (k, g k)) ++ [(k.nk, v)] := by
  have hl : (lookD kvs k.nk).isSome = decide (k.nk ∈ S) := by
    rw [lookD_entry, h, find_seen]
    by_cases m : k.nk ∈ S
    · rw [if_pos m, decide_eq_true m]; rfl
    · rw [if_neg m, decide_eq_false m]; rfl
  unfold putD
  rw [hl]
  by_cases m : k.nk ∈ S
  · rw [if_pos (decide_eq_true m), if_pos m]
    have e2 : entry (kvs.map fun p => if p.1.nk = k.nk then (p.1, v) else p) = (entry kvs).map fun p => (p.1, if p.1 = k.nk then v else p.2) := by
      unfold entry
      rw [List.map_map, List.map_map]
      refine List.map_congr_left fun p _ => ?_
      show ((if p.1.nk = k.nk then (p.1, v) else p).1.nk, (if p.1.nk = k.nk then (p.1, v) else p).2) = _
      by_cases c : p.1.nk = k.nk
      · rw [if_pos c]
        show (p.1.nk, v) = (p.1.nk, if p.1.nk = k.nk then v else p.2)
        rw [if_pos c]
      · rw [if_neg c]
        show _ = (p.1.nk, if p.1.nk = k.nk then v else p.2)
        rw [if_neg c]
    rw [e2, h, List.map_map]
    rfl
  · rw [if_neg (by simpa using m), if_neg m]
    show entry (kvs ++ [(k, v)]) = _
    unfold entry at h ⊢
    rw [List.map_append, h]
    rfl
def lotOf (held : Nat) (f : Nat → NK) (n : Nat) (k : NK) : List (List Bool) := ((List.range n).filter fun x => decide (f x = k)).map fun x => standOf x held
theorem lotOf_succ (held : Nat) (f : Nat → NK) (n : Nat) (k : NK) : lotOf held f (n + 1) k = if f n = k then lotOf held f n k ++ [standOf n held] else lotOf held f n k := by
  unfold lotOf
  rw [List.range_succ, List.filter_append, List.map_append]
  by_cases e : f n = k
  · rw [if_pos e, List.filter_cons_of_pos (p := fun x => decide (f x = k)) (decide_eq_true e)]
    rfl
  · rw [if_neg e, List.filter_cons_of_neg (p := fun x => decide (f x = k)) (by simpa using e)]
    exact List.append_nil _
theorem lotOf_none {held : Nat} {f : Nat → NK} {n : Nat} {k : NK} (h : k ∉ (List.range n).map f) : lotOf held f n k = [] := by
  unfold lotOf
  rw [List.filter_eq_nil_iff.mpr]
  · rfl
  · intro x hx c
    exact h (List.mem_map.mpr ⟨x, hx, of_decide_eq_true c⟩)
theorem ckv_entry (held : Nat) (told : List Nat) : ∀ n, entry (ckv held told n) = (seenG ((List.range n).map fun x => (keyC told x).nk)).map fun k => (k, lotD (lotOf held (fun x => (keyC told x).nk) n k))
  | 0 => rfl
  | n + 1 => by
    have ih := ckv_entry held told n
    show entry (putD (ckv held told n) (keyC told n) (.tup (tupOf ((lookD (ckv held told n) (keyC told n).nk).getD (.tup [])) ++ [boolsD (standOf n held)]))) = _
    rw [putD_entry ih, List.range_succ, List.map_append, List.map_singleton, seenG_snoc, lookD_entry, ih, find_seen]
    have hm := mem_seenG (k := (keyC told n).nk) ((List.range n).map fun x => (keyC told x).nk)
    generalize seenG ((List.range n).map fun x => (keyC told x).nk) = S at *
    by_cases m : (keyC told n).nk ∈ S
    · rw [if_pos m, if_pos m, if_pos m]
      refine List.map_congr_left fun k hk => ?_
      rw [lotOf_succ]
      by_cases e : k = (keyC told n).nk
      · rw [if_pos e, if_pos e.symm, e]
        refine congrArg (Prod.mk _) ?_
        show D.tup (((lotOf held (fun x => (keyC told x).nk) n (keyC told n).nk)).map boolsD ++ [boolsD (standOf n held)]) = lotD _
        unfold lotD
        rw [List.map_append]
        rfl
      · rw [if_neg e, if_neg (fun z => e z.symm)]
    · rw [if_neg m, if_neg m, if_neg m, List.map_append]
      congr 1
      · refine List.map_congr_left fun k hk => ?_
        rw [lotOf_succ, if_neg]
        intro z
        have z : (keyC told n).nk = k := z
        exact m (z ▸ hk)
      · rw [List.map_singleton, lotOf_succ, if_pos rfl, lotOf_none fun z => m (hm.mpr z)]
        rfl
theorem lots_eq (held : Nat) (told : List Nat) : lotsD held told = (seenG ((List.range (2 ^ held)).map fun x => (keyC told x).nk)).map fun k => lotD (lotOf held (fun x => (keyC told x).nk) (2 ^ held) k) := by
  unfold lotsD
  have e := ckv_entry held told (2 ^ held)
  have e2 : (ckv held told (2 ^ held)).map (·.2) = (entry (ckv held told (2 ^ held))).map (·.2) := by
    unfold entry
    rw [List.map_map]
    rfl
  rw [e2, e, List.map_map]
  rfl
/-! ### keys told alike -/
theorem nk_nat_inj {a b : Nat} (h : (natD a).nk = (natD b).nk) : a = b := by
  have h : NestedKey.num (a : Int) = NestedKey.num (b : Int) := h
  injection h with h
  omega
theorem nk_tup {l m : List D} : (D.tup l).nk = (D.tup m).nk ↔ nks l = nks m := by
  constructor
  · intro h
    have h : NestedKey.tup (nks l) = NestedKey.tup (nks m) := h
    injection h
  · intro h
    show NestedKey.tup (nks l) = NestedKey.tup (nks m)
    rw [h]
theorem keyC_alike {told : List Nat} {a b : Nat} : (keyC told a).nk = (keyC told b).nk ↔ Alike told a b := by
  unfold keyC natsT
  rw [nk_tup, List.map_map, List.map_map, nks_map, nks_map, List.map_inj_left]
  unfold Alike Orth
  constructor
  · intro h r hr
    have e : oddN (r &&& a) = oddN (r &&& b) := nk_nat_inj (h r hr)
    rw [dot_xr]
    unfold dot par
    rw [e, Bool.xor_self]
  · intro h r hr
    have e := h r hr
    rw [dot_xr] at e
    show (natD (oddN (r &&& a))).nk = (natD (oddN (r &&& b))).nk
    rw [oddN_par, oddN_par]
    have : par (r &&& a) = par (r &&& b) := by
      unfold dot at e
      cases x : par (r &&& a) <;> cases y : par (r &&& b) <;> simp_all
    rw [this]
/-! ### marks -/
theorem idx_inj {κ : Type} [DecidableEq κ] {l : List κ} {x y : κ} (hx : x ∈ l) (h : l.idxOf x = l.idxOf y) : x = y := by
  have h1 := List.idxOf_lt_length_of_mem hx
  have e1 : l[l.idxOf x]? = some x := by rw [List.getElem?_eq_getElem h1, List.getElem_idxOf]
  have hy : y ∈ l := by
    rw [h] at h1
    exact List.idxOf_lt_length_iff.mp h1
  have e2 : l[l.idxOf y]? = some y := by rw [List.getElem?_eq_getElem (List.idxOf_lt_length_of_mem hy), List.getElem_idxOf]
  rw [h] at e1
  rw [e1] at e2
  injection e2
theorem marks_get {keys : List D} {a : Nat} {d : D} (h : keys[a]? = some d) : (marksOf keys).getD a 0 = (seen (keys.map D.nk)).idxOf d.nk := by
  unfold marksOf
  rw [List.getD_eq_getElem?_getD, List.getElem?_map, h]
  rfl
theorem marks_iff {keys : List D} {a b : Nat} {d e : D} (ha : keys[a]? = some d) (hb : keys[b]? = some e) : (marksOf keys).getD a 0 = (marksOf keys).getD b 0 ↔ d.nk = e.nk := by
  rw [marks_get ha, marks_get hb]
  constructor
  · intro h
    exact idx_inj (mem_seen.mpr (List.mem_map.mpr ⟨d, List.mem_of_getElem? ha, rfl⟩)) h
  · intro h
    rw [h]
theorem range_get {α : Type} (f : Nat → α) {n a : Nat} (h : a < n) : ((List.range n).map f)[a]? = some (f a) := by
  rw [List.getElem?_map, List.getElem?_range h]
  rfl
section
variable {held free : Nat} {own put : List Nat} {s : Nat} {t : Bool} {T : Nat}
/-- alike after i turns -/
def RelA (T : Nat) (g : Graph) (i a b : Nat) : Prop := (marksAt T g i).getD a 0 = (marksAt T g i).getD b 0
theorem graph_len (M : Mach) : M.graph.length = 2 ^ M.held := by
  unfold Mach.graph
  rw [List.length_map, List.length_range]
theorem graph_get (M : Mach) {a : Nat} (h : a < 2 ^ M.held) : M.graph.getD a [] = M.row a := by
  unfold Mach.graph
  rw [List.getD_eq_getElem?_getD, range_get _ h]
  rfl
theorem rel0 {T : Nat} {g : Graph} {a b : Nat} (ha : a < g.length) (hb : b < g.length) : RelA T g 0 a b ↔ T.testBit a = T.testBit b := by
  unfold RelA marksAt keys0
  rw [marks_iff (range_get _ ha) (range_get _ hb)]
  have e : ∀ c, T >>> c &&& 1 = (T.testBit c).toNat := fun c => by
    rw [Nat.and_one_is_mod, Nat.testBit_eq_decide_div_mod_eq, Nat.shiftRight_eq_div_pow]
    rcases Nat.mod_two_eq_zero_or_one (T / 2 ^ c) with e | e <;> rw [e] <;> rfl
  rw [e, e]
  constructor
  · intro h
    have := nk_nat_inj h
    cases x : T.testBit a <;> cases y : T.testBit b <;> simp_all
  · intro h
    rw [h]
theorem relS {T : Nat} {M : Mach} {i a b : Nat} (ha : a < 2 ^ M.held) (hb : b < 2 ^ M.held) : RelA T M.graph (i + 1) a b ↔ RelA T M.graph i a b ∧ ∀ mv, mv < 2 ^ M.free → RelA T M.graph i (M.later (a * 2 ^ M.free + mv)) (M.later (b * 2 ^ M.free + mv)) := by
  unfold RelA
  show (marksOf (keysOf (marksAt T M.graph i) M.graph)).getD a 0 = (marksOf (keysOf (marksAt T M.graph i) M.graph)).getD b 0 ↔ _
  generalize marksAt T M.graph i = m
  unfold keysOf
  rw [marks_iff (range_get _ (by rw [graph_len]; exact ha)) (range_get _ (by rw [graph_len]; exact hb)), graph_get M ha, graph_get M hb]
  unfold keyAt
  rw [nk_tup]
  have e : ∀ c, nks [natD (m.getD c 0), D.tup ((M.row c).map fun p => D.tup [natD p.1, natD (m.getD p.2 0)])] = [(natD (m.getD c 0)).nk, NestedKey.tup ((List.range (2 ^ M.free)).map fun mv => (D.tup [natD mv, natD (m.getD (M.later (c * 2 ^ M.free + mv)) 0)]).nk)] := fun c => by
    show [(natD (m.getD c 0)).nk, NestedKey.tup (nks ((M.row c).map fun p => D.tup [natD p.1, natD (m.getD p.2 0)]))] = _
    rw [nks_map]
    unfold Mach.row
    rw [List.map_map]
    rfl
  rw [e, e]
  constructor
  · intro h
    injection h with h1 h2
    injection h2 with h2 _
    injection h2 with h2
    refine ⟨nk_nat_inj h1, fun mv hmv => ?_⟩
    have h3 := (List.map_inj_left.mp h2) mv (List.mem_range.mpr hmv)
    have h4 := nk_tup.mp h3
    have h4 : [(natD mv).nk, (natD (m.getD (M.later (a * 2 ^ M.free + mv)) 0)).nk] = [(natD mv).nk, (natD (m.getD (M.later (b * 2 ^ M.free + mv)) 0)).nk] := h4
    injection h4 with _ h4
    injection h4 with h4 _
    exact nk_nat_inj h4
  · rintro ⟨h1, h2⟩
    rw [h1]
    congr 3
    refine List.map_congr_left fun mv hmv => ?_
    rw [h2 mv (List.mem_range.mp hmv)]
theorem rel_orth (ok : NumsOk held free own put) {start : D} (hs : s < 2 ^ held) (hT : ∀ st, st < 2 ^ held → T.testBit st = (dot s (revB held st) ^^ t)) : ∀ i a b, a < 2 ^ held → b < 2 ^ held →
    (RelA T (madeM held free own put start).graph i a b ↔ Alike (orbit (turned own own.length) s (i + 1)) (revB held a) (revB held b))
  | 0, a, b, ha, hb => by
    rw [rel0 (by rw [graph_len]; exact ha) (by rw [graph_len]; exact hb), hT a ha, hT b hb]
    unfold Alike
    rw [orbit_orth]
    constructor
    · intro h j hj
      have e : j = 0 := by omega
      subst e
      show dot s _ = false
      rw [dot_xr]
      cases t <;> cases x : dot s (revB held a) <;> cases y : dot s (revB held b) <;> simp_all
    · intro h
      have h := h 0 (by omega)
      have h : dot s (revB held a ^^^ revB held b) = false := h
      rw [dot_xr] at h
      cases t <;> cases x : dot s (revB held a) <;> cases y : dot s (revB held b) <;> simp_all
  | i + 1, a, b, ha, hb => by
    have hab : revB held a ^^^ revB held b < 2 ^ held := Nat.xor_lt_two_pow (revB_lt _ _) (revB_lt _ _)
    rw [relS (M := madeM held free own put start) ha hb, rel_orth ok hs hT i a b ha hb]
    unfold Alike
    rw [orth_step ok.lo hs hab]
    refine and_congr Iff.rfl ?_
    have key : ∀ mv, mv < 2 ^ free → (RelA T (madeM held free own put start).graph i ((madeM held free own put start).later (a * 2 ^ free + mv)) ((madeM held free own put start).later (b * 2 ^ free + mv)) ↔ Orth (orbit (turned own own.length) s (i + 1)) (stepT own (revB held a ^^^ revB held b))) := fun mv hmv => by
      obtain ⟨a1, a2⟩ := made_later ok (start := start) ha hmv
      obtain ⟨b1, b2⟩ := made_later ok (start := start) hb hmv
      rw [rel_orth ok hs hT i _ _ a1 b1, a2, b2]
      unfold Alike
      rw [stepT_xor]
      have e : (stepT own (revB held a) ^^^ stepT put (revB free mv)) ^^^ (stepT own (revB held b) ^^^ stepT put (revB free mv)) = stepT own (revB held a) ^^^ stepT own (revB held b) := by
        apply Nat.eq_of_testBit_eq
        intro j
        simp only [Nat.testBit_xor]
        cases (stepT own (revB held a)).testBit j <;> cases (stepT own (revB held b)).testBit j <;> cases (stepT put (revB free mv)).testBit j <;> rfl
      rw [e]
    constructor
    · intro h
      exact (key 0 (Nat.two_pow_pos _)).mp (h 0 (Nat.two_pow_pos _))
    · intro h mv hmv
      exact (key mv hmv).mpr h
theorem many_rel {M : Mach} {i : Nat} {base : List Nat} (hb : Straight M.held base) (h : ∀ a b, a < 2 ^ M.held → b < 2 ^ M.held → (RelA T M.graph i a b ↔ Alike base (revB M.held a) (revB M.held b))) : manyAt T M.graph i = 2 ^ base.length := by
  have key : ∀ (f : Nat → D), (marksAt T M.graph i = marksOf ((List.range (2 ^ M.held)).map f)) → manyOf ((List.range (2 ^ M.held)).map f) = 2 ^ base.length := fun f e => by
    unfold manyOf
    rw [List.map_map, seen_eq]
    refine many_keys hb _ fun a b ha hb' => ?_
    rw [← h b a hb' ha]
    unfold RelA
    rw [e, marks_iff (range_get _ hb') (range_get _ ha)]
    rfl
  cases i with
  | zero =>
    unfold manyAt keys0
    rw [graph_len]
    exact key _ (by unfold marksAt keys0; rw [graph_len])
  | succ i =>
    unfold manyAt keysOf
    rw [graph_len]
    exact key _ (by show marksOf (keysOf _ _) = _; unfold keysOf; rw [graph_len])
/-- the classes: when they are found, and what they are -/
theorem classes_end (ok : NumsOk held free own put) {start : D} (hs : s < 2 ^ held) (hT : ∀ st, st < 2 ^ held → T.testBit st = (dot s (revB held st) ^^ t)) {n : Nat} (h1 : ∀ i, i < n → toldAt (turned own own.length) s i ≠ 0) (h2 : toldAt (turned own own.length) s n = 0) :
    ∃ k, (∀ i, i < k → manyAt T (madeM held free own put start).graph (i + 1) ≠ manyAt T (madeM held free own put start).graph i) ∧ manyAt T (madeM held free own put start).graph (k + 1) = manyAt T (madeM held free own put start).graph k ∧
      ∀ a b, a < 2 ^ held → b < 2 ^ held → (RelA T (madeM held free own put start).graph (k + 1) a b ↔ Alike (baseOf (orbit (turned own own.length) s n)) (revB held a) (revB held b)) := by
  have rel := rel_orth ok (start := start) hs hT
  have early : ∀ i, i < n → manyAt T (madeM held free own put start).graph i = 2 ^ (i + 1) := fun i hi => by
    have e := many_rel (M := madeM held free own put start) (told_straight ok.lo hs (i + 1)) fun a b ha hb => (rel i a b ha hb).trans base_orth.symm
    rw [told_len (i + 1) fun j hj => h1 j (by omega)] at e
    exact e
  have lateR : ∀ i, n ≤ i + 1 → ∀ a b, a < 2 ^ held → b < 2 ^ held → (RelA T (madeM held free own put start).graph i a b ↔ Alike (baseOf (orbit (turned own own.length) s n)) (revB held a) (revB held b)) := fun i hi a b ha hb => by
    rw [rel i a b ha hb]
    unfold Alike
    rw [base_orth]
    exact orth_late ok.lo hs h2 hi (Nat.xor_lt_two_pow (revB_lt _ _) (revB_lt _ _))
  have late : ∀ i, n ≤ i + 1 → manyAt T (madeM held free own put start).graph i = 2 ^ n := fun i hi => by
    have e := many_rel (M := madeM held free own put start) (told_straight ok.lo hs n) (lateR i hi)
    rw [told_len n h1] at e
    exact e
  refine ⟨n - 1, fun i hi => ?_, ?_, lateR (n - 1 + 1) (by omega)⟩
  · rw [early i (by omega), early (i + 1) (by omega)]
    intro z
    have := Nat.pow_lt_pow_right (a := 2) (by decide) (show i + 1 < i + 1 + 1 by omega)
    omega
  · rw [late (n - 1) (by omega), late (n - 1 + 1) (by omega)]
/-! ### both lists of lots are one -/
def kinL (held : Nat) (marks : List Nat) : List (List (List Bool)) := (seenG marks).map fun m => ((List.range (2 ^ held)).filter fun a => decide (marks.getD a 0 = m)).map (rowAt held)
def kinD (held : Nat) (marks : List Nat) : D := .tup (sortD ((kinL held marks).map lotD))
theorem row_inj {h a b : Nat} (ha : a < 2 ^ h) (hb : b < 2 ^ h) (e : rowAt h a = rowAt h b) : a = b := by
  unfold rowAt at e
  apply Nat.eq_of_testBit_eq
  intro i
  by_cases c : i < h
  · have := (List.map_inj_left.mp e) (h - 1 - i) (List.mem_range.mpr (by omega))
    rw [show h - 1 - (h - 1 - i) = i by omega] at this
    exact this
  · rw [bit_high ha (by omega), bit_high hb (by omega)]
theorem lots_nodup {κ : Type} [DecidableEq κ] (f : Nat → κ) (ks : List κ) (hk : ∀ k ∈ ks, ∃ a, a < 2 ^ held ∧ f a = k) : ((seenG ks).map fun m => ((List.range (2 ^ held)).filter fun a => decide (f a = m)).map (rowAt held)).Nodup := by
  refine List.pairwise_map.mpr ((seenG_nodup ks).imp_of_mem fun {m m'} hm hm' z e => z ?_)
  obtain ⟨a, ha, rfl⟩ := hk m ((mem_seenG ks).mp hm)
  have h1 : rowAt held a ∈ ((List.range (2 ^ held)).filter fun b => decide (f b = f a)).map (rowAt held) := List.mem_map.mpr ⟨a, List.mem_filter.mpr ⟨List.mem_range.mpr ha, decide_eq_true rfl⟩, rfl⟩
  rw [e] at h1
  obtain ⟨b, hb, e2⟩ := List.mem_map.mp h1
  obtain ⟨b1, b2⟩ := List.mem_filter.mp hb
  have := row_inj (List.mem_range.mp b1) ha e2
  subst this
  exact of_decide_eq_true b2
theorem mem_marks {marks : List Nat} (hl : marks.length = 2 ^ held) {m : Nat} (hm : m ∈ marks) : ∃ a, a < 2 ^ held ∧ marks.getD a 0 = m := by
  obtain ⟨i, hi, e⟩ := List.mem_iff_getElem.mp hm
  refine ⟨i, by omega, ?_⟩
  rw [List.getD_eq_getElem?_getD, List.getElem?_eq_getElem hi, e]
  rfl
theorem kin_due {marks told : List Nat} (hl : marks.length = 2 ^ held) (h : ∀ a b, a < 2 ^ held → b < 2 ^ held → (marks.getD a 0 = marks.getD b 0 ↔ Alike told (revB held a) (revB held b))) : kinD held marks = duesD held told := by
  unfold kinD duesD
  congr 1
  -- the lots of the law, sorted, by stands
  have e1 : (lotsD held told).map sortLot = ((seenG ((List.range (2 ^ held)).map fun x => (keyC told x).nk)).map fun k => ((List.range (2 ^ held)).filter fun a => decide ((keyC told (revB held a)).nk = k)).map (rowAt held)).map lotD := by
    rw [lots_eq, List.map_map, List.map_map]
    refine List.map_congr_left fun k _ => ?_
    exact lot_sorted (fun a => decide ((keyC told (revB held a)).nk = k)) (fun x => decide ((keyC told x).nk = k)) fun a _ => rfl
  rw [e1]
  refine sort_eq lotD (fun a b h1 h2 => lot_anti h1 h2) ((sortD_perm _).trans (List.Perm.map _ ?_)) (sortD_pw _)
  refine ((List.perm_ext_iff_of_nodup ?_ ?_).mpr fun x => ?_).symm
  · refine lots_nodup _ _ fun m hm => ?_
    obtain ⟨a, ha, rfl⟩ := mem_marks hl hm
    exact ⟨a, ha, rfl⟩
  · refine lots_nodup (fun a => (keyC told (revB held a)).nk) _ fun m hm => ?_
    obtain ⟨y, hy, rfl⟩ := List.mem_map.mp hm
    exact ⟨revB held y, revB_lt _ _, by rw [revB_rev (List.mem_range.mp hy)]⟩
  · have same : ∀ a, a < 2 ^ held → ((List.range (2 ^ held)).filter fun b => decide (marks.getD b 0 = marks.getD a 0)) = (List.range (2 ^ held)).filter fun b => decide ((keyC told (revB held b)).nk = (keyC told (revB held a)).nk) := fun a ha => by
      refine List.filter_congr fun b hb => decide_eq_decide.mpr ?_
      rw [h b a (List.mem_range.mp hb) ha, keyC_alike]
    unfold kinL
    rw [List.mem_map, List.mem_map]
    constructor
    · rintro ⟨m, hm, rfl⟩
      obtain ⟨a, ha, rfl⟩ := mem_marks hl ((mem_seenG marks).mp hm)
      exact ⟨(keyC told (revB held a)).nk, (mem_seenG _).mpr (List.mem_map.mpr ⟨revB held a, List.mem_range.mpr (revB_lt _ _), rfl⟩), by rw [same a ha]⟩
    · rintro ⟨k, hk, rfl⟩
      obtain ⟨y, hy, rfl⟩ := List.mem_map.mp ((mem_seenG _).mp hk)
      have hy := List.mem_range.mp hy
      have hr := revB_lt held y
      refine ⟨marks.getD (revB held y) 0, (mem_seenG _).mpr ?_, ?_⟩
      · exact getD_mem (by rw [hl]; exact hr)
      · rw [same _ hr, revB_rev hy]
end
end K13
set_option linter.all false
set_option maxRecDepth 100000
/-! MG: how many lots, how great; the lots compared. -/
namespace K13
open PySem L2 DL PySem.W
theorem sortD_map {α : Type} (f : α → D) (l : List α) : ∃ l' : List α, sortD (l.map f) = l'.map f ∧ l'.Perm l :=
  ⟨l.mergeSort fun a b => leD (f a) (f b), (List.map_mergeSort (f := f) (r := fun a b => leD (f a) (f b)) (s := leD) fun a _ b _ => rfl).symm, List.mergeSort_perm _ _⟩
theorem due_form {held : Nat} {told : List Nat} (h : Straight held told) : ∃ Ls : List (List (List Bool)), duesD held told = .tup (Ls.map lotD) ∧ Ls.length = 2 ^ told.length ∧ ∀ l ∈ Ls, l.length = 2 ^ (held - told.length) := by
  have hr := straight_len h
  let L := (seenG ((List.range (2 ^ held)).map fun x => (keyC told x).nk)).map fun k => ((List.range (2 ^ held)).filter fun a => decide ((keyC told (revB held a)).nk = k)).map (rowAt held)
  have e1 : (lotsD held told).map sortLot = L.map lotD := by
    rw [lots_eq, List.map_map, List.map_map]
    refine List.map_congr_left fun k _ => ?_
    exact lot_sorted (fun a => decide ((keyC told (revB held a)).nk = k)) (fun x => decide ((keyC told x).nk = k)) fun a _ => rfl
  obtain ⟨L', e2, hp⟩ := sortD_map lotD L
  refine ⟨L', by unfold duesD; rw [e1, e2], ?_, fun l hl => ?_⟩
  · rw [hp.length_eq]
    show ((seenG _).map _).length = _
    rw [List.length_map]
    have e := seen_count (ks := (List.range (2 ^ held)).map fun x => (keyC told x).nk) (c := 2 ^ (held - told.length)) fun d hd => by
      obtain ⟨a, ha, rfl⟩ := List.mem_map.mp hd
      rw [List.countP_map]
      exact pow_cancel (alike_count' h (a := a) _ fun b hb => by
        show decide ((keyC told b).nk = (keyC told a).nk) = true ↔ _
        rw [decide_eq_true_eq, keyC_alike]) hr
    rw [List.length_map, List.length_range] at e
    have e3 : 2 ^ held = 2 ^ told.length * 2 ^ (held - told.length) := by rw [← Nat.pow_add]; congr 1; omega
    exact Nat.eq_of_mul_eq_mul_right (Nat.two_pow_pos _) (e.trans e3)
  · obtain ⟨k, hk, rfl⟩ := List.mem_map.mp (hp.mem_iff.mp hl)
    obtain ⟨x, hx, rfl⟩ := List.mem_map.mp ((mem_seenG _).mp hk)
    have hx := List.mem_range.mp hx
    rw [List.length_map, ← List.countP_eq_length_filter]
    exact pow_cancel (alike_count h (a := revB held x) _ fun b hb => by rw [decide_eq_true_eq, keyC_alike, revB_rev hx]) hr
theorem nk_due (Ls : List (List (List Bool))) : (D.tup (Ls.map lotD)).isD = true := allNk_map _ _ fun x _ => nk_lot x
theorem py_due (Ls : List (List (List Bool))) : (D.tup (Ls.map lotD)).py2 = Datum.toD (Tup.mk (Ls.map tupL)) := by
  show PyData.tuple (pys (Ls.map lotD)) = _
  rw [pys_lots]
  rfl
theorem eqv_due (Ls : List (List (List Bool))) : PyData.eqv (D.tup (Ls.map lotD)).py2 (D.tup (Ls.map lotD)).py2 = true := by
  rw [py_due, Datum.eqv]
  exact decide_eq_true rfl
end K13
set_option Elab.async false
set_option linter.all false
set_option maxRecDepth 100000
set_option maxHeartbeats 4000000
set_option pp.maxSteps 300
namespace K13
open PySem PySem.Spec PyProof.Rows L2 DL
local macro_rules | `(tactic| walk_at "d") => `(tactic| (first
  | with_reducible refine addN ?_ | with_reducible refine subN (by omega) ?_ | with_reducible refine mulN (by first | exact .inl (by decide) | exact .inr (by decide) | omega) ?_ | with_reducible refine andN ?_ | with_reducible refine orN ?_ | with_reducible refine xorN ?_
  | with_reducible refine modN (by first | decide | omega) ?_ | with_reducible refine fdivN (by first | decide | omega) (by first | decide | omega) ?_ | with_reducible refine shrN ?_ | with_reducible refine shl1 (by omega) ?_
  | with_reducible refine ltN ?_ | with_reducible refine leN ?_ | with_reducible refine gtN ?_ | with_reducible refine geN ?_ | with_reducible refine eqN ?_ | with_reducible refine neN ?_ | with_reducible refine absN ?_ | with_reducible refine minN ?_ | with_reducible refine intB ?_
  | with_reducible refine ixL (by with_unfolding_all rfl) ?_ | with_reducible refine ixT (by with_unfolding_all rfl) ?_
  | with_reducible refine rngN (by first | omega | decide) ?_
  | with_reducible refine lenTm ?_ | with_reducible refine lenLm ?_ | with_reducible refine lenT ?_ | with_reducible refine lenL ?_ | with_reducible refine tupL ?_ | with_reducible refine tupT ?_ | with_reducible refine lstL ?_ | with_reducible refine lstT ?_ | with_reducible refine itmL ?_ | with_reducible refine itmT ?_ | with_reducible refine enmL ?_ | with_reducible refine enmT ?_ | with_reducible refine eqS ?_ | with_reducible refine neS ?_ | with_reducible refine revL ?_
  | ((with_reducible refine idDb ?_); first | refine Db.one ?_ | refine Db.cons ?_ | refine Db.nil ?_)
  | ((with_reducible refine idDs ?_); first | refine Ds.ret ?_ | refine Ds.if_ ?_ | refine Ds.set' 0 ?_ | refine Ds.set' 1 ?_ | refine Ds.set' 2 ?_ | refine Ds.set' 3 ?_ | refine Ds.set' 4 ?_ | refine Ds.set' 5 ?_ | refine Ds.set' 6 ?_ | refine Ds.set' 7 ?_ | refine Ds.set' 8 ?_ | refine Ds.set' 9 ?_ | refine Ds.set' 10 ?_ | refine Ds.set' 11 ?_ | refine Ds.set' 12 ?_ | refine Ds.set' 13 ?_)
  | ((with_reducible refine idDe ?_); first
    | refine De.name 0 rfl ?_ | refine De.name 1 rfl ?_ | refine De.name 2 rfl ?_ | refine De.name 3 rfl ?_ | refine De.name 4 rfl ?_ | refine De.name 5 rfl ?_ | refine De.name 6 rfl ?_ | refine De.name 7 rfl ?_ | refine De.name 8 rfl ?_ | refine De.name 9 rfl ?_ | refine De.name 10 rfl ?_ | refine De.name 11 rfl ?_ | refine De.name 12 rfl ?_ | refine De.name 13 rfl ?_
    | refine De.nat (n := 0) ?_ | refine De.nat (n := 1) ?_ | refine De.nat (n := 2) ?_ | refine De.nat ?_ | refine De.str ?_ | refine De.bl ?_ | refine De.non ?_
    | refine De.add ?_ | refine De.sub ?_ | refine De.mul ?_ | refine De.shl ?_ | refine De.shr ?_ | refine De.band ?_ | refine De.bor ?_ | refine De.bxor ?_ | refine De.mod ?_ | refine De.fdiv ?_ | refine De.pow ?_
    | refine De.eq ?_ | refine De.ne ?_ | refine De.lt ?_ | refine De.le ?_ | refine De.gt ?_ | refine De.ge ?_
    | refine De.chLL ?_ | refine De.chLl ?_
    | refine De.and1 ?_ | refine De.and ?_ | refine De.or ?_ | refine De.not ?_ | refine De.ite ?_
    | refine De.tup ?_ | refine De.lst ?_
    | refine De.rev ?_ | refine De.slLo ?_ | refine De.slHi ?_ | refine De.ix ?_ | refine De.fld ?_
    | refine De.isi (fun _ => Txt.isinstance) ?_ | refine De.len (fun _ => Txt.len) ?_ | refine De.toTup (fun _ => Txt.tuple) ?_ | refine De.toLst (fun _ => Txt.list) ?_ | refine De.toInt (fun _ => Txt.int) ?_ | refine De.allB (fun _ => Txt.all) ?_ | refine De.sum (fun _ => Txt.sum) ?_
    | refine De.min2 (fun _ => Txt.min) ?_ | refine De.abs (fun _ => Txt.abs) ?_ | refine De.sortI (fun _ => Txt.sorted) ?_
    | refine bcls (fun _ => Txt.int) boot_int ?_ | refine bcls (fun _ => Txt.bool) boot_bool ?_ | refine bcls (fun _ => Txt.tuple) boot_tuple ?_ | refine bcls (fun _ => Txt.str) boot_str ?_
    | refine ocls (fun _ => Txt.gS) ?_
    | refine gnat (fun _ => Txt.MOST_LEAVES) ?_ | refine gnat (fun _ => Txt.MOST_GATES) ?_ | refine gnat (fun _ => Txt.MOST_HELD) ?_ | refine gnat (fun _ => Txt.MOST_FREE) ?_ | refine gnat (fun _ => Txt.MOST_LAID) ?_ | refine gnat (fun _ => Txt.MOST_KIN) ?_)
  | ((with_reducible refine idDt ?_); first
    | refine Dt.eq ?_ | refine Dt.ne ?_ | refine Dt.lt ?_ | refine Dt.le ?_ | refine Dt.gt ?_ | refine Dt.ge ?_
    | refine Dt.not ?_ | refine Dt.or2 ?_ | refine Dt.and2 ?_ | refine Dt.or3 ?_ | refine Dt.truthB ?_ | refine Dt.val ?_)
  | ((with_reducible refine idDa ?_); first | refine Da.nil ?_ | refine Da.cons ?_)
  | ((with_reducible refine idDi ?_); first | refine Di.range1 (fun _ => Txt.range) ?_ | refine Di.range2 (fun _ => Txt.range) ?_ | refine Di.enum (fun _ => Txt.enumerate) ?_)
  | refine fun _ => ⟨Txt.cS.cl, Txt.nS _ (by decide), _, rfl, ?_⟩ | refine fun _ => ⟨Txt.cM.cl, Txt.nM _ (by decide), _, rfl, ?_⟩
  | refine fun _ => isi_int rfl ?_ | refine fun _ => isi_bool rfl ?_ | refine fun _ => isi_tuple rfl ?_ | refine fun _ => isi_str rfl ?_))
variable {G : Glo} [Txt G]
/-! ### ban_asked, few_asked: both ways -/
/-- the error's facts -/
class TxtX (G : Glo) [Txt G] where
  xB : PySem.W.excIn G.K (Txt.CB G) [.type "ValueError", .type "Exception", .type "BaseException", .type "object"] "ValueError.__new__" = true
  kB : PySem.W.keepIn G.K (.ref (Txt.CB G)) = true
  bB : PySem.W.subIn G.K (.ref (Txt.CB G)) (.type "BaseException") = some true
  tB : PySem.W.typeIn G.K (.ref (Txt.CB G)) = some (.type "type")
variable [TxtX G]
abbrev sBan : Stmt := topS 27
theorem scBan : FnScope ["machine", "ban"] ["machine", "ban"] (defScope sBan) := ⟨rfl, rfl, rfl, by decide +kernel, rfl, by decide +kernel, by decide +kernel⟩
def spBan (G : Glo) [Txt G] : DSpec := fun ds Q => ∃ (M : Mach) (d : D), ds = [M.d G, d] ∧ saysN G d M.held true ∧ Q .non
theorem ok_ban {f : Addr} {fd : FuncData} {x qual : Str} (F : Fun G.K x qual sBan f fd) (cI : Callee G "is_saying" (spIsSaying G) 2) : FnOk G.P G.w G.K G.mg G.base CX0 3 f fd ["machine", "ban"] (spD G.K (spBan G)) := by
  refine defD F scBan (fun ds Q h => by obtain ⟨_, _, rfl, _⟩ := h; rfl) (fun ds Q h => ?_)
  obtain ⟨M, d, rfl, hs, hq⟩ := h
  repeat walk_at "d"
  refine De.call cI ?_
  repeat walk_at "d"
  refine ⟨_, _, _, rfl, hs, ?_⟩
  refine ⟨fun z => (nomatch z), fun _ => ?_⟩
  repeat walk_at "d"
  exact hq
def spBanX (G : Glo) [Txt G] : List D → Prop := fun ds => ∃ (M : Mach) (d : D), ds = [M.d G, d] ∧ saysN G d M.held false
theorem x_ban {f : Addr} {fd : FuncData} {x qual : Str} (F : Fun G.K x qual sBan f fd) (cI : Callee G "is_saying" (spIsSaying G) 2) : FnOk G.P G.w G.K G.mg G.base (L2.CX G.P G.w) 3 f fd ["machine", "ban"] (spX G.K (Txt.CB G) (spBanX G)) := by
  refine defX F scBan (fun ds h => by obtain ⟨_, _, rfl, _⟩ := h; rfl) (by decide) (fun ds h z => ?_)
  obtain ⟨M, d, rfl, hs⟩ := h
  refine raises_if PySem.F.excBase_ValueError TxtX.xB Txt.gB TxtX.kB TxtX.bB TxtX.tB ?_ (by intro _; rfl) (by decide) z
  show Dt _ [.sh (M.d G), .sh d] _ _
  repeat walk_at "d"
  refine De.call cI ?_
  repeat walk_at "d"
  exact ⟨_, _, _, rfl, hs, rfl⟩
abbrev sFew : Stmt := topS 33
theorem scFew : FnScope ["machine", "shown"] ["machine", "shown"] (defScope sFew) := ⟨rfl, rfl, rfl, by decide +kernel, rfl, by decide +kernel, by decide +kernel⟩
def spFew (G : Glo) [Txt G] : DSpec := fun ds Q => ∃ (M : Mach) (d : D), ds = [M.d G, d] ∧ saysN G d M.held true ∧ M.held ≤ 8 ∧ Q .non
theorem ok_few {f : Addr} {fd : FuncData} {x qual : Str} (F : Fun G.K x qual sFew f fd) (cB : Callee G "ban_asked" (spBan G) 3) : FnOk G.P G.w G.K G.mg G.base CX0 4 f fd ["machine", "shown"] (spD G.K (spFew G)) := by
  refine defD F scFew (fun ds Q h => by obtain ⟨_, _, rfl, _⟩ := h; rfl) (fun ds Q h => ?_)
  obtain ⟨M, d, rfl, hs, hl, hq⟩ := h
  repeat walk_at "d"
  refine Ds.expr ?_
  refine De.call cB ?_
  repeat walk_at "d"
  refine ⟨_, _, rfl, hs, ?_⟩
  repeat walk_at "d"
  refine ⟨fun c => ?_, fun _ => ?_⟩
  · have c : (8 : Nat) < M.held := of_decide_eq_true c
    omega
  · repeat walk_at "d"
    exact hq
theorem x_few {f : Addr} {fd : FuncData} {x qual : Str} (F : Fun G.K x qual sFew f fd) (cB : CalleeX G "ban_asked" (Txt.CB G) (spBanX G) 3) : FnOk G.P G.w G.K G.mg G.base (L2.CX G.P G.w) 4 f fd ["machine", "shown"] (spX G.K (Txt.CB G) (spBanX G)) := by
  refine defX F scFew (fun ds h => by obtain ⟨_, _, rfl, _⟩ := h; rfl) (by decide) (fun ds h z => ?_)
  obtain ⟨M, d, rfl, hs⟩ := h
  refine raises_call cB ?_ (by exact Nat.le_of_ble_eq_true rfl) (by intro _; rfl) (by decide) (by intro _; rfl) (by intro _; rfl) (by intro _; rfl) z
  show Da _ [.sh (M.d G), .sh d] _ _
  repeat walk_at "d"
  exact ⟨_, _, rfl, hs⟩
abbrev sKin : Stmt := topS 34
abbrev NKin : List Str := ["machine", "shown", "classes", "stand", "mark", "row"]
theorem scKin : FnScope NKin ["machine", "shown"] (defScope sKin) := ⟨rfl, rfl, rfl, by decide +kernel, rfl, by decide +kernel, by decide +kernel⟩
theorem x_kin {f : Addr} {fd : FuncData} {x qual : Str} (F : Fun G.K x qual sKin f fd) (cB : CalleeX G "few_asked" (Txt.CB G) (spBanX G) 4) : FnOk G.P G.w G.K G.mg G.base (L2.CX G.P G.w) 5 f fd ["machine", "shown"] (spX G.K (Txt.CB G) (spBanX G)) := by
  refine defX F scKin (fun ds h => by obtain ⟨_, _, rfl, _⟩ := h; rfl) (by decide) (fun ds h z => ?_)
  obtain ⟨M, d, rfl, hs⟩ := h
  refine raises_call cB ?_ (by exact Nat.le_of_ble_eq_true rfl) (by intro _; rfl) (by decide) (by intro _; rfl) (by intro _; rfl) (by intro _; rfl) z
  show Da _ [.sh (M.d G), .sh d, .no, .no, .no, .no] _ _
  repeat walk_at "d"
  exact ⟨_, _, rfl, hs⟩
end K13
set_option Elab.async false
set_option linter.all false
set_option maxRecDepth 100000
set_option maxHeartbeats 4000000
set_option pp.maxSteps 300
namespace K13
open PySem PySem.Spec PyProof.Rows L2 DL
local macro_rules | `(tactic| walk_at "d") => `(tactic| (first
  | with_reducible refine addN ?_ | with_reducible refine subN (by omega) ?_ | with_reducible refine mulN (by first | exact .inl (by decide) | exact .inr (by decide) | omega) ?_ | with_reducible refine andN ?_ | with_reducible refine orN ?_ | with_reducible refine xorN ?_
  | with_reducible refine modN (by first | decide | omega) ?_ | with_reducible refine fdivN (by first | decide | omega) (by first | decide | omega) ?_ | with_reducible refine shrN ?_ | with_reducible refine shl1 (by omega) ?_
  | with_reducible refine ltN ?_ | with_reducible refine leN ?_ | with_reducible refine gtN ?_ | with_reducible refine geN ?_ | with_reducible refine eqN ?_ | with_reducible refine neN ?_ | with_reducible refine absN ?_ | with_reducible refine minN ?_ | with_reducible refine intB ?_
  | with_reducible refine ixL (by with_unfolding_all rfl) ?_ | with_reducible refine ixT (by with_unfolding_all rfl) ?_
  | with_reducible refine rngN (by first | omega | decide) ?_
  | with_reducible refine lenTm ?_ | with_reducible refine lenLm ?_ | with_reducible refine lenT ?_ | with_reducible refine lenL ?_ | with_reducible refine tupL ?_ | with_reducible refine tupT ?_ | with_reducible refine lstL ?_ | with_reducible refine lstT ?_ | with_reducible refine itmL ?_ | with_reducible refine itmT ?_ | with_reducible refine enmL ?_ | with_reducible refine enmT ?_ | with_reducible refine eqS ?_ | with_reducible refine neS ?_ | with_reducible refine revL ?_
  | ((with_reducible refine idDb ?_); first | refine Db.one ?_ | refine Db.cons ?_ | refine Db.nil ?_)
  | ((with_reducible refine idDs ?_); first | refine Ds.ret ?_ | refine Ds.if_ ?_ | refine Ds.set' 0 ?_ | refine Ds.set' 1 ?_ | refine Ds.set' 2 ?_ | refine Ds.set' 3 ?_ | refine Ds.set' 4 ?_ | refine Ds.set' 5 ?_ | refine Ds.set' 6 ?_ | refine Ds.set' 7 ?_ | refine Ds.set' 8 ?_ | refine Ds.set' 9 ?_ | refine Ds.set' 10 ?_ | refine Ds.set' 11 ?_ | refine Ds.set' 12 ?_ | refine Ds.set' 13 ?_)
  | ((with_reducible refine idDe ?_); first
    | refine De.name 0 rfl ?_ | refine De.name 1 rfl ?_ | refine De.name 2 rfl ?_ | refine De.name 3 rfl ?_ | refine De.name 4 rfl ?_ | refine De.name 5 rfl ?_ | refine De.name 6 rfl ?_ | refine De.name 7 rfl ?_ | refine De.name 8 rfl ?_ | refine De.name 9 rfl ?_ | refine De.name 10 rfl ?_ | refine De.name 11 rfl ?_ | refine De.name 12 rfl ?_ | refine De.name 13 rfl ?_
    | refine De.nat (n := 0) ?_ | refine De.nat (n := 1) ?_ | refine De.nat (n := 2) ?_ | refine De.nat ?_ | refine De.str ?_ | refine De.bl ?_ | refine De.non ?_
    | refine De.add ?_ | refine De.sub ?_ | refine De.mul ?_ | refine De.shl ?_ | refine De.shr ?_ | refine De.band ?_ | refine De.bor ?_ | refine De.bxor ?_ | refine De.mod ?_ | refine De.fdiv ?_ | refine De.pow ?_
    | refine De.eq ?_ | refine De.ne ?_ | refine De.lt ?_ | refine De.le ?_ | refine De.gt ?_ | refine De.ge ?_
    | refine De.chLL ?_ | refine De.chLl ?_
    | refine De.and1 ?_ | refine De.and ?_ | refine De.or ?_ | refine De.not ?_ | refine De.ite ?_
    | refine De.tup ?_ | refine De.lst ?_
    | refine De.rev ?_ | refine De.slLo ?_ | refine De.slHi ?_ | refine De.ix ?_ | refine De.fld ?_
    | refine De.isi (fun _ => Txt.isinstance) ?_ | refine De.len (fun _ => Txt.len) ?_ | refine De.toTup (fun _ => Txt.tuple) ?_ | refine De.toLst (fun _ => Txt.list) ?_ | refine De.toInt (fun _ => Txt.int) ?_ | refine De.allB (fun _ => Txt.all) ?_ | refine De.sum (fun _ => Txt.sum) ?_
    | refine De.min2 (fun _ => Txt.min) ?_ | refine De.abs (fun _ => Txt.abs) ?_ | refine De.sortI (fun _ => Txt.sorted) ?_
    | refine bcls (fun _ => Txt.int) boot_int ?_ | refine bcls (fun _ => Txt.bool) boot_bool ?_ | refine bcls (fun _ => Txt.tuple) boot_tuple ?_ | refine bcls (fun _ => Txt.str) boot_str ?_
    | refine ocls (fun _ => Txt.gS) ?_
    | refine gnat (fun _ => Txt.MOST_LEAVES) ?_ | refine gnat (fun _ => Txt.MOST_GATES) ?_ | refine gnat (fun _ => Txt.MOST_HELD) ?_ | refine gnat (fun _ => Txt.MOST_FREE) ?_ | refine gnat (fun _ => Txt.MOST_LAID) ?_ | refine gnat (fun _ => Txt.MOST_KIN) ?_)
  | ((with_reducible refine idDt ?_); first
    | refine Dt.eq ?_ | refine Dt.ne ?_ | refine Dt.lt ?_ | refine Dt.le ?_ | refine Dt.gt ?_ | refine Dt.ge ?_
    | refine Dt.not ?_ | refine Dt.or2 ?_ | refine Dt.and2 ?_ | refine Dt.or3 ?_ | refine Dt.truthB ?_ | refine Dt.val ?_)
  | ((with_reducible refine idDa ?_); first | refine Da.nil ?_ | refine Da.cons ?_)
  | ((with_reducible refine idDi ?_); first | refine Di.range1 (fun _ => Txt.range) ?_ | refine Di.range2 (fun _ => Txt.range) ?_ | refine Di.enum (fun _ => Txt.enumerate) ?_)
  | refine fun _ => ⟨Txt.cS.cl, Txt.nS _ (by decide), _, rfl, ?_⟩ | refine fun _ => ⟨Txt.cM.cl, Txt.nM _ (by decide), _, rfl, ?_⟩
  | refine fun _ => isi_int rfl ?_ | refine fun _ => isi_bool rfl ?_ | refine fun _ => isi_tuple rfl ?_ | refine fun _ => isi_str rfl ?_))
variable {G : Glo} [Txt G]
/-! ### kin_stands -/
variable [TxtX G]
theorem grpN_form (f : Nat → D) (ms : List Nat) : ∀ n, grpN f ms n = (seenG ((List.range n).map fun a => ms.getD a 0)).map fun m => (m, ((List.range n).filter fun a => decide (ms.getD a 0 = m)).map f)
  | 0 => rfl
  | n + 1 => by
    have ih := grpN_form f ms n
    show grpAdd (grpN f ms n) (ms.getD n 0) (f n) = _
    rw [List.range_succ, List.map_append, List.map_singleton, seenG_snoc]
    have hmem := mem_seenG (k := ms.getD n 0) ((List.range n).map fun a => ms.getD a 0)
    have hany : (grpN f ms n).any (fun p => decide (p.1 = ms.getD n 0)) = decide (ms.getD n 0 ∈ seenG ((List.range n).map fun a => ms.getD a 0)) := by
      rw [ih, List.any_map]
      apply Bool.eq_iff_iff.mpr
      rw [List.any_eq_true, decide_eq_true_eq]
      constructor
      · rintro ⟨x, hx, e⟩
        have e : x = ms.getD n 0 := of_decide_eq_true e
        rw [← e]
        exact hx
      · intro hx
        exact ⟨_, hx, decide_eq_true rfl⟩
    have fl : ∀ m, ((List.range n ++ [n]).filter fun a => decide (ms.getD a 0 = m)) = if ms.getD n 0 = m then ((List.range n).filter fun a => decide (ms.getD a 0 = m)) ++ [n] else (List.range n).filter fun a => decide (ms.getD a 0 = m) := fun m => by
      rw [List.filter_append]
      by_cases e : ms.getD n 0 = m
      · rw [if_pos e, List.filter_cons_of_pos (p := fun a => decide (ms.getD a 0 = m)) (decide_eq_true e)]
        rfl
      · rw [if_neg e, List.filter_cons_of_neg (p := fun a => decide (ms.getD a 0 = m)) (by simpa using e)]
        exact List.append_nil _
    unfold grpAdd
    rw [hany]
    by_cases c : ms.getD n 0 ∈ seenG ((List.range n).map fun a => ms.getD a 0)
    · rw [if_pos (decide_eq_true c), if_pos c, ih, List.map_map]
      refine List.map_congr_left fun m hm => ?_
      rw [fl m]
      show (if m = ms.getD n 0 then (m, _ ++ [f n]) else (m, _)) = _
      by_cases e : m = ms.getD n 0
      · rw [if_pos e, if_pos e.symm, List.map_append]
        rfl
      · rw [if_neg e, if_neg (fun z => e z.symm)]
    · rw [if_neg (by simpa using c), if_neg c, List.map_append, ih]
      congr 1
      · refine List.map_congr_left fun m hm => ?_
        rw [fl m, if_neg (fun z => c (by rw [z]; exact hm))]
      · rw [List.map_singleton, fl, if_pos rfl, List.filter_eq_nil_iff.mpr]
        · rfl
        · intro x hx z
          exact c (hmem.mpr (List.mem_map.mpr ⟨x, hx, of_decide_eq_true z⟩))
theorem kin_vals {held : Nat} {ms : List Nat} (hl : ms.length = 2 ^ held) : (grpN (fun n => boolsD (rowAt held n)) ms ms.length).map (fun p => D.tup p.2) = (kinL held ms).map lotD := by
  rw [grpN_form]
  have e : (List.range ms.length).map (fun a => ms.getD a 0) = ms := by
    refine List.ext_getElem? fun j => ?_
    rw [List.getElem?_map]
    by_cases c : j < ms.length
    · rw [List.getElem?_range c, List.getElem?_eq_getElem c]
      show some (ms.getD j 0) = _
      rw [List.getD_eq_getElem?_getD, List.getElem?_eq_getElem c]
      rfl
    · rw [List.getElem?_eq_none (by rw [List.length_range]; omega), List.getElem?_eq_none (by omega)]
      rfl
  rw [e, List.map_map]
  unfold kinL
  rw [List.map_map, hl]
  refine List.map_congr_left fun m _ => ?_
  show D.tup _ = D.tup _
  rw [List.map_map]
  rfl
theorem kin_ne {held : Nat} {ms : List Nat} (hl : ms.length = 2 ^ held) : ∀ l ∈ kinL held ms, 1 ≤ l.length ∧ ∀ b ∈ l, b.length = held := by
  intro l h
  obtain ⟨m, hm, rfl⟩ := List.mem_map.mp h
  obtain ⟨a, ha, rfl⟩ := mem_marks hl ((mem_seenG ms).mp hm)
  refine ⟨List.length_pos_of_mem (List.mem_map.mpr ⟨a, List.mem_filter.mpr ⟨List.mem_range.mpr ha, decide_eq_true rfl⟩, rfl⟩), fun b hb => ?_⟩
  obtain ⟨x, _, rfl⟩ := List.mem_map.mp hb
  unfold rowAt
  rw [List.length_map, List.length_range]
theorem graph_ok {M : Mach} (ok : M.Ok G) (hh : M.held ≤ 8) : GrOk M.graph := by
  have h1 : 2 ^ M.held ≤ 2 ^ 8 := Nat.pow_le_pow_right (by decide) hh
  have h2 : 2 ^ M.free ≤ 2 ^ 8 := Nat.pow_le_pow_right (by decide) ok.free
  refine ⟨by rw [graph_len]; omega, fun r hr => ?_⟩
  obtain ⟨st, _, rfl⟩ := List.mem_map.mp hr
  unfold Mach.row
  refine ⟨by rw [List.length_map, List.length_range]; omega, fun p hp => ?_⟩
  obtain ⟨mv, _, rfl⟩ := List.mem_map.mp hp
  rw [graph_len, later_bigE]
  have := bigE_lt (M.steps.map fun r => (refT M.tabs M.full r).testBit (st * 2 ^ M.free + mv))
  rw [List.length_map, ok.sl] at this
  exact this
def spKin (G : Glo) [Txt G] : DSpec := fun ds Q => ∃ (M : Mach) (r : Nat) (gs : List Gate) (k : Nat), ds = [M.d G, sayD (Txt.CS G) M.held gs r] ∧ M.Go G ∧ M.held ≤ 8 ∧ 1 ≤ M.held ∧ sayOk M.held gs r ∧
  (∀ i, i < k → manyAt (sayT M.held gs r) M.graph (i + 1) ≠ manyAt (sayT M.held gs r) M.graph i) ∧ manyAt (sayT M.held gs r) M.graph (k + 1) = manyAt (sayT M.held gs r) M.graph k ∧ Q (kinD M.held (marksAt (sayT M.held gs r) M.graph (k + 1)))
theorem ok_kin {f : Addr} {fd : FuncData} {x qual : Str} (F : Fun G.K x qual sKin f fd) (cF : Callee G "few_asked" (spFew G) 4) (cC : Callee G "class_numbers" (spClass G) 4) (cG : Callee G "graph_of" (spGraph G) 3) (cR : Callee G "row_at" spRowAt 1) : FnOk G.P G.w G.K G.mg G.base CX0 5 f fd ["machine", "shown"] (spD G.K (spKin G)) := by
  refine defD F scKin (fun ds Q h => by obtain ⟨_, _, _, _, rfl, _⟩ := h; rfl) (fun ds Q h => ?_)
  obtain ⟨M, r, gs, k, rfl, go, hh, h1, sok, hne, heq, hq⟩ := h
  have gok := graph_ok go.ok hh
  have hml : (marksAt (sayT M.held gs r) M.graph (k + 1)).length = 2 ^ M.held := by rw [marksAt_len, graph_len]
  have hN8 : 2 ^ M.held ≤ 2 ^ 8 := Nat.pow_le_pow_right (by decide) hh
  generalize hms : marksAt (sayT M.held gs r) M.graph (k + 1) = ms at *
  show Db _ [.sh (M.d G), .sh (sayD (Txt.CS G) M.held gs r), .no, .no, .no, .no] _ _
  repeat walk_at "d"
  refine Ds.expr ?_
  refine De.call cF ?_
  repeat walk_at "d"
  refine ⟨_, _, rfl, .inl ⟨_, _, _, rfl, (decide_eq_true rfl).symm⟩, hh, ?_⟩
  repeat walk_at "d"
  refine Dl.dic none (fun _ => trivial) ?_
  repeat walk_at "d"
  refine Ds.groups (f := fun n => boolsD (rowAt M.held n)) (ms := ms) (Tgt.two 3 4 (fun _ => scKin.nd)) ?_ (by omega) (fun n m hm => ?_) (by intro _; rfl) (by intro _; rfl) (by intro _; rfl) (by intro _; exact .inl rfl) (by intro _; exact .inl rfl) (by intro _; rfl) (fun _ => scKin.nd) (by decide) (by decide) (by decide) (by decide) (by decide) (by decide)
    (by intro _; exact ⟨rfl, rfl, rfl, rfl⟩) (by intro _; rfl) (by intro _; rfl) (by intro _; rfl) (by intro _; rfl) (by intro _; rfl) rfl (by intro _; rfl) (by intro _; exact PassesOwn.never) (by intro _ _; rfl)
  · repeat walk_at "d"
    refine De.call cC ?_
    repeat walk_at "d"
    refine De.call cG ?_
    repeat walk_at "d"
    refine ⟨M, rfl, go, ?_⟩
    repeat walk_at "d"
    refine ⟨_, _, _, _, _, k, rfl, sok, gok, hne, heq, ?_⟩
    rw [hms]
    refine Da.nil ⟨rfl, ?_⟩
    show Db _ [.sh (M.d G), .sh (sayD (Txt.CS G) M.held gs r), .ow (.dic none (grpD (grpN (fun n => boolsD (rowAt M.held n)) ms ms.length))), .no, .no, .no] _ _
    refine Db.pin 2 rfl ?_
    have hgl := grpN_len (fun n => boolsD (rowAt M.held n)) ms ms.length
    have hrows := kin_vals hml
    have hne2 := kin_ne hml
    generalize grpN (fun n => boolsD (rowAt M.held n)) ms ms.length = kvs at *
    have hvals : (grpD kvs).map (·.2) = kvs.map fun p => D.lst p.2 := by
      unfold grpD
      rw [List.map_map]
      rfl
    rw [hvals]
    show Db _ [.sh (M.d G), .sh (sayD (Txt.CS G) M.held gs r), .sh (.vals (kvs.map fun p => D.lst p.2)), .no, .no, .no] _ _
    refine Db.one (Ds.ret (De.toTup (fun _ => Txt.tuple) (Da.cons (De.sortD (fun _ => Txt.sorted) (Da.cons ?_)))))
    refine De.lc [("row", 5)] .no (Tgt.name 5 (fun _ => scKin.nd)) (fun _ => blkOk_by (N := ["machine", "shown", "classes", "stand", "mark", "row"]) (sc := (defScope sKin)) (by decide +kernel)) (fun _ => scKin.nd) ?_
    refine Di.vals ?_
    repeat walk_at "d"
    refine ⟨by rw [List.length_map, sizeLine_eq]; omega, lc_mapG (fun p => D.lst p.2) (fun p => D.tup p.2) kvs ?_ fun p hp Q' hq' => ?_⟩
    · rw [hrows]
      refine Da.nil ?_
      refine ⟨fun d hd => ?_, fun d hd d' hd' => ?_, .inl fun d hd => ?_, ?_⟩
      · obtain ⟨l, _, rfl⟩ := List.mem_map.mp hd
        exact ⟨nk_lot l, depth_lot l⟩
      · obtain ⟨e, he, rfl⟩ := List.mem_map.mp hd
        obtain ⟨e', he', rfl⟩ := List.mem_map.mp hd'
        obtain ⟨l, _, rfl⟩ := List.mem_map.mp he
        obtain ⟨l', _, rfl⟩ := List.mem_map.mp he'
        exact alike_lot l l'
      · obtain ⟨e, he, rfl⟩ := List.mem_map.mp hd
        obtain ⟨l, hl, rfl⟩ := List.mem_map.mp he
        obtain ⟨l1, _⟩ := hne2 l hl
        cases l with
        | nil => cases l1
        | cons y ys => exact ⟨_, _, rfl⟩
      · repeat walk_at "d"
        exact hq
    · repeat walk_at "d"
      exact hq'
  · repeat walk_at "d"
    refine De.call cR ?_
    repeat walk_at "d"
    exact ⟨_, _, rfl, by omega, rfl⟩
end K13
set_option Elab.async false
set_option linter.all false
set_option maxRecDepth 100000
set_option maxHeartbeats 4000000
set_option pp.maxSteps 300
namespace K13
open PySem PySem.Spec PyProof.Rows L2 DL
local macro_rules | `(tactic| walk_at "d") => `(tactic| (first
  | with_reducible refine addN ?_ | with_reducible refine subN (by omega) ?_ | with_reducible refine mulN (by first | exact .inl (by decide) | exact .inr (by decide) | omega) ?_ | with_reducible refine andN ?_ | with_reducible refine orN ?_ | with_reducible refine xorN ?_
  | with_reducible refine modN (by first | decide | omega) ?_ | with_reducible refine fdivN (by first | decide | omega) (by first | decide | omega) ?_ | with_reducible refine shrN ?_ | with_reducible refine shl1 (by omega) ?_
  | with_reducible refine ltN ?_ | with_reducible refine leN ?_ | with_reducible refine gtN ?_ | with_reducible refine geN ?_ | with_reducible refine eqN ?_ | with_reducible refine neN ?_ | with_reducible refine absN ?_ | with_reducible refine minN ?_ | with_reducible refine intB ?_ | with_reducible refine intI ?_
  | with_reducible refine ixL (by with_unfolding_all rfl) ?_ | with_reducible refine ixT (by with_unfolding_all rfl) ?_
  | with_reducible refine rngN (by first | omega | decide) ?_
  | with_reducible refine lenTm ?_ | with_reducible refine lenLm ?_ | with_reducible refine lenT ?_ | with_reducible refine lenL ?_ | with_reducible refine tupL ?_ | with_reducible refine tupT ?_ | with_reducible refine lstL ?_ | with_reducible refine lstT ?_ | with_reducible refine itmL ?_ | with_reducible refine itmT ?_ | with_reducible refine enmL ?_ | with_reducible refine enmT ?_ | with_reducible refine eqS ?_ | with_reducible refine neS ?_ | with_reducible refine revL ?_
  | ((with_reducible refine idDb ?_); first | refine Db.one ?_ | refine Db.cons ?_ | refine Db.nil ?_)
  | ((with_reducible refine idDs ?_); first | refine Ds.retR ?_ | refine Ds.hset 0 rfl ?_ | refine Ds.if_ ?_ | refine Ds.set' 0 ?_ | refine Ds.set' 1 ?_ | refine Ds.set' 2 ?_ | refine Ds.set' 3 ?_ | refine Ds.set' 4 ?_ | refine Ds.set' 5 ?_ | refine Ds.set' 6 ?_ | refine Ds.set' 7 ?_ | refine Ds.set' 8 ?_ | refine Ds.set' 9 ?_ | refine Ds.set' 10 ?_ | refine Ds.set' 11 ?_ | refine Ds.set' 12 ?_ | refine Ds.set' 13 ?_)
  | ((with_reducible refine idDe ?_); first | refine De.hix 0 rfl (De.nat (n := 0) ⟨by decide, fun _ => ?_, fun z => absurd rfl z⟩) | refine De.hix 0 rfl (De.nat (n := 1) ⟨by decide, (fun z => by cases z), fun _ => ⟨_, rfl, ?_⟩⟩) | refine De.hix 0 rfl (De.nat (n := 2) ⟨by decide, (fun z => by cases z), fun _ => ⟨_, rfl, ?_⟩⟩) | refine De.hix 0 rfl (De.nat (n := 3) ⟨by decide, (fun z => by cases z), fun _ => ⟨_, rfl, ?_⟩⟩) | refine De.hix 0 rfl (De.nat (n := 4) ⟨by decide, (fun z => by cases z), fun _ => ⟨_, rfl, ?_⟩⟩))
  | ((with_reducible refine idDe ?_); first
    | refine De.name 0 rfl ?_ | refine De.name 1 rfl ?_ | refine De.name 2 rfl ?_ | refine De.name 3 rfl ?_ | refine De.name 4 rfl ?_ | refine De.name 5 rfl ?_ | refine De.name 6 rfl ?_ | refine De.name 7 rfl ?_ | refine De.name 8 rfl ?_ | refine De.name 9 rfl ?_ | refine De.name 10 rfl ?_ | refine De.name 11 rfl ?_ | refine De.name 12 rfl ?_ | refine De.name 13 rfl ?_
    | refine De.nat (n := 0) ?_ | refine De.nat (n := 1) ?_ | refine De.nat (n := 2) ?_ | refine De.nat ?_ | refine De.str ?_ | refine De.bl ?_ | refine De.non ?_
    | refine De.add ?_ | refine De.sub ?_ | refine De.mul ?_ | refine De.shl ?_ | refine De.shr ?_ | refine De.band ?_ | refine De.bor ?_ | refine De.bxor ?_ | refine De.mod ?_ | refine De.fdiv ?_ | refine De.pow ?_
    | refine De.eq ?_ | refine De.ne ?_ | refine De.lt ?_ | refine De.le ?_ | refine De.gt ?_ | refine De.ge ?_
    | refine De.chLL ?_ | refine De.chLl ?_
    | refine De.and1 ?_ | refine De.and ?_ | refine De.or ?_ | refine De.not ?_ | refine De.ite ?_
    | refine De.tup ?_ | refine De.lst ?_
    | refine De.rev ?_ | refine De.slLo ?_ | refine De.slHi ?_ | refine De.ix ?_ | refine De.fld ?_
    | refine De.isi (fun _ => Txt.isinstance) ?_ | refine De.len (fun _ => Txt.len) ?_ | refine De.toTup (fun _ => Txt.tuple) ?_ | refine De.toLst (fun _ => Txt.list) ?_ | refine De.toInt (fun _ => Txt.int) ?_ | refine De.allB (fun _ => Txt.all) ?_ | refine De.sum (fun _ => Txt.sum) ?_
    | refine De.min2 (fun _ => Txt.min) ?_ | refine De.abs (fun _ => Txt.abs) ?_ | refine De.sortI (fun _ => Txt.sorted) ?_
    | refine bcls (fun _ => Txt.int) boot_int ?_ | refine bcls (fun _ => Txt.bool) boot_bool ?_ | refine bcls (fun _ => Txt.tuple) boot_tuple ?_ | refine bcls (fun _ => Txt.str) boot_str ?_
    | refine ocls (fun _ => Txt.gS) ?_
    | refine gnat (fun _ => Txt.MOST_LEAVES) ?_ | refine gnat (fun _ => Txt.MOST_GATES) ?_ | refine gnat (fun _ => Txt.MOST_HELD) ?_ | refine gnat (fun _ => Txt.MOST_FREE) ?_ | refine gnat (fun _ => Txt.MOST_LAID) ?_ | refine gnat (fun _ => Txt.MOST_KIN) ?_)
  | ((with_reducible refine idDt ?_); first
    | refine Dt.eq ?_ | refine Dt.ne ?_ | refine Dt.lt ?_ | refine Dt.le ?_ | refine Dt.gt ?_ | refine Dt.ge ?_
    | refine Dt.not ?_ | refine Dt.or2 ?_ | refine Dt.and2 ?_ | refine Dt.or3 ?_ | refine Dt.truthB ?_ | refine Dt.val ?_)
  | ((with_reducible refine idDa ?_); first | refine Da.nil ?_ | refine Da.cons ?_)
  | ((with_reducible refine idDi ?_); first | refine Di.range1 (fun _ => Txt.range) ?_ | refine Di.range2 (fun _ => Txt.range) ?_ | refine Di.enum (fun _ => Txt.enumerate) ?_)
  | refine fun _ => ⟨Txt.cS.cl, Txt.nS _ (by decide), _, rfl, ?_⟩ | refine fun _ => ⟨Txt.cM.cl, Txt.nM _ (by decide), _, rfl, ?_⟩
  | refine fun _ => isi_int rfl ?_ | refine fun _ => isi_bool rfl ?_ | refine fun _ => isi_tuple rfl ?_ | refine fun _ => isi_str rfl ?_))
variable {G : Glo} [Txt G]
/-! ### _law_draw -/
theorem Db.cut {F : Fam} {ρ : Rho} {st : Stmt} {rest : List Stmt} {k : Ek} (P : Rho → Prop) (h1 : Ds F ρ st { k with nx := P }) (h2 : ∀ ρ', P ρ' → Db F ρ' rest k) : Db F ρ (st :: rest) k :=
  Db.cons (Ds.mono h1 h2 (fun _ z => z) (fun _ z => z) (fun _ z => z) fun _ _ z => z)
abbrev sDraw : Stmt := topS 37
abbrev NDraw : List Str := ["hand", "many", "cell", "digit", "number"]
theorem scDraw : FnScope NDraw ["hand", "many"] (defScope sDraw) := ⟨rfl, rfl, rfl, by decide +kernel, rfl, by decide +kernel, by decide +kernel⟩
def drawN (m : Nat) (Q : DQ) : Prop := 1 ≤ m ∧ m ≤ 2 ^ 20 ∧ ∀ d : Nat, d < m → Q (natD d)
def spDraw : DSpec := fun ds Q => ∃ m : Nat, ds = [.hand, natD m] ∧ drawN m Q
theorem ok_draw {f : Addr} {fd : FuncData} {x qual : Str} (F : Fun G.K x qual sDraw f fd) : FnOk G.P G.w G.K G.mg G.base CX0 1 f fd ["hand", "many"] (spD G.K spDraw) := by
  refine defHand (spec := drawN) F scDraw fun m Q h a c cells i left mix n bnd => ?_
  obtain ⟨m1, m2, hq⟩ := h
  refine Db.cut (fun ρ => ∃ (i left mix n : Nat) (s2 : Sl), ρ = [.ow (.hnd a c cells [(i : Int), (left : Int), (mix : Int), (n : Int)]), .sh (natD m), s2, .no, .no] ∧ HandB cells i left mix n) ?_ fun ρ hρ => ?_
  · obtain ⟨b1, b2, b3, b4, b5, b6, b7⟩ := id bnd
    obtain ⟨i, rfl⟩ := Int.eq_ofNat_of_zero_le b2
    obtain ⟨left, rfl⟩ := Int.eq_ofNat_of_zero_le b3
    obtain ⟨mix, rfl⟩ := Int.eq_ofNat_of_zero_le b5
    obtain ⟨n, rfl⟩ := Int.eq_ofNat_of_zero_le b7
    show Ds _ [.ow (.hnd a c cells [(i : Int), (left : Int), (mix : Int), (n : Int)]), .sh (natD m), .no, .no, .no] _ _
    repeat walk_at "d"
    refine ⟨fun c1 => ?_, fun c1 => ⟨fun z => (nomatch z), fun _ => ?_⟩⟩
    · repeat walk_at "d"
      refine ⟨fun c2 => ?_, fun c2 => ?_⟩
      · have hi : i < cells.length := of_decide_eq_true c2
        obtain ⟨cl, hcl⟩ : ∃ cl, cells[i]? = some cl := ⟨_, List.getElem?_eq_getElem hi⟩
        obtain ⟨k1, k2⟩ := b1 cl (List.mem_of_getElem? hcl)
        obtain ⟨cl, rfl⟩ := Int.eq_ofNat_of_zero_le k1
        repeat walk_at "d"
        refine Dl.sh ?_
        repeat walk_at "d"
        refine ⟨Int.natCast_nonneg i, .int (cl : Int), by rw [Int.toNat_natCast, List.getElem?_map, hcl]; rfl, ?_⟩
        repeat walk_at "d"
        refine ⟨Int.le_refl 1, by show (1 : Int) ≤ 4; decide, ?_⟩
        show Db _ [.ow (.hnd a c cells [((i + 1 : Nat) : Int), (left : Int), (mix : Int), (n : Int)]), .sh (natD m), .sh (natD cl), .no, .no] _ _
        repeat walk_at "d"
        refine ⟨by decide, by show (3 : Int) ≤ 4; decide, ?_⟩
        generalize hmx : (mix * 48271 + cl % 2147483629 * 69621 + 17) % 2147483629 = mx
        have hmx2 : mx < 2147483629 := by rw [← hmx]; exact Nat.mod_lt _ (by decide)
        show Db _ [.ow (.hnd a c cells [((i + 1 : Nat) : Int), (left : Int), (mx : Int), (n : Int)]), .sh (natD m), .sh (natD cl), .no, .no] _ _
        repeat walk_at "d"
        refine powN (by decide) (by decide) ?_
        repeat walk_at "d"
        have hb : HandB cells ((i + 1 : Nat) : Int) (left : Int) (mx : Int) (n : Int) := ⟨b1, Int.natCast_nonneg _, b3, b4, Int.natCast_nonneg _, by omega, b7⟩
        refine ⟨fun c3 => ?_, fun c3 => ?_⟩
        · repeat walk_at "d"
          refine ⟨by decide, by show (2 : Int) ≤ 4; decide, ?_⟩
          exact ⟨_, _, _, _, _, rfl, b1, Int.natCast_nonneg _, k1, k2, Int.natCast_nonneg _, by omega, b7⟩
        · repeat walk_at "d"
          exact ⟨_, _, _, _, _, rfl, hb⟩
      · repeat walk_at "d"
        exact ⟨_, _, _, _, _, rfl, bnd⟩
    · repeat walk_at "d"
      exact ⟨_, _, _, _, _, rfl, bnd⟩
  · obtain ⟨i, left, mix, n, s2, rfl, bnd⟩ := hρ
    obtain ⟨b1, b2, b3, b4, b5, b6, b7⟩ := id bnd
    repeat walk_at "d"
    refine ⟨fun c1 => ?_, fun c1 => ?_⟩
    · repeat walk_at "d"
      refine Dl.sh ?_
      repeat walk_at "d"
      refine ⟨by decide, by show (2 : Int) ≤ 4; decide, ?_⟩
      show Db _ [.ow (.hnd a c cells [(i : Int), ((left / m : Nat) : Int), (mix : Int), (n : Int)]), .sh (natD m), s2, .sh (natD (left % m)), .no] _ _
      repeat walk_at "d"
      have hd := Nat.div_le_self left m
      exact ⟨_, _, _, _, rfl, ⟨b1, b2, Int.natCast_nonneg _, by omega, b5, b6, b7⟩, ⟨_, rfl⟩, hq _ (Nat.mod_lt _ (by omega))⟩
    · repeat walk_at "d"
      refine ⟨by decide, by show (4 : Int) ≤ 4; decide, ?_⟩
      show Db _ [.ow (.hnd a c cells [(i : Int), (left : Int), (mix : Int), ((n + 1 : Nat) : Int)]), .sh (natD m), s2, .no, .no] _ _
      repeat walk_at "d"
      refine Dl.sh ?_
      repeat walk_at "d"
      generalize hnu : (mix + 7919 * (n + 1)) * 40692 % 2147483399 = nu
      have hnu2 : nu < 2147483399 := by rw [← hnu]; exact Nat.mod_lt _ (by decide)
      refine Dl.sh ?_
      repeat walk_at "d"
      exact ⟨_, _, _, _, rfl, ⟨b1, b2, b3, b4, b5, b6, Int.natCast_nonneg _⟩, ⟨_, rfl⟩, hq _ (Nat.mod_lt _ (by omega))⟩
end K13
set_option Elab.async false
set_option linter.all false
set_option maxRecDepth 100000
set_option maxHeartbeats 4000000
set_option pp.maxSteps 300
namespace K13
open PySem PySem.Spec PyProof.Rows L2 DL
local macro_rules | `(tactic| walk_at "d") => `(tactic| (first
  | with_reducible refine addN ?_ | with_reducible refine subN (by omega) ?_ | with_reducible refine mulN (by first | exact .inl (by decide) | exact .inr (by decide) | omega) ?_ | with_reducible refine andN ?_ | with_reducible refine orN ?_ | with_reducible refine xorN ?_
  | with_reducible refine modN (by first | decide | omega) ?_ | with_reducible refine fdivN (by first | decide | omega) (by first | decide | omega) ?_ | with_reducible refine shrN ?_ | with_reducible refine shl1 (by omega) ?_
  | with_reducible refine ltN ?_ | with_reducible refine leN ?_ | with_reducible refine gtN ?_ | with_reducible refine geN ?_ | with_reducible refine eqN ?_ | with_reducible refine neN ?_ | with_reducible refine absN ?_ | with_reducible refine minN ?_ | with_reducible refine intB ?_
  | with_reducible refine ixL (by with_unfolding_all rfl) ?_ | with_reducible refine ixT (by with_unfolding_all rfl) ?_
  | with_reducible refine rngN (by first | omega | decide) ?_
  | with_reducible refine lenTm ?_ | with_reducible refine lenLm ?_ | with_reducible refine lenT ?_ | with_reducible refine lenL ?_ | with_reducible refine tupL ?_ | with_reducible refine tupT ?_ | with_reducible refine lstL ?_ | with_reducible refine lstT ?_ | with_reducible refine itmL ?_ | with_reducible refine itmT ?_ | with_reducible refine enmL ?_ | with_reducible refine enmT ?_ | with_reducible refine eqS ?_ | with_reducible refine neS ?_ | with_reducible refine revL ?_
  | ((with_reducible refine idDb ?_); first | refine Db.one ?_ | refine Db.cons ?_ | refine Db.nil ?_)
  | ((with_reducible refine idDs ?_); first | refine Ds.ret ?_ | refine Ds.if_ ?_ | refine Ds.set' 0 ?_ | refine Ds.set' 1 ?_ | refine Ds.set' 2 ?_ | refine Ds.set' 3 ?_ | refine Ds.set' 4 ?_ | refine Ds.set' 5 ?_ | refine Ds.set' 6 ?_ | refine Ds.set' 7 ?_ | refine Ds.set' 8 ?_ | refine Ds.set' 9 ?_ | refine Ds.set' 10 ?_ | refine Ds.set' 11 ?_ | refine Ds.set' 12 ?_ | refine Ds.set' 13 ?_)
  | ((with_reducible refine idDe ?_); first
    | refine De.name 0 rfl ?_ | refine De.name 1 rfl ?_ | refine De.name 2 rfl ?_ | refine De.name 3 rfl ?_ | refine De.name 4 rfl ?_ | refine De.name 5 rfl ?_ | refine De.name 6 rfl ?_ | refine De.name 7 rfl ?_ | refine De.name 8 rfl ?_ | refine De.name 9 rfl ?_ | refine De.name 10 rfl ?_ | refine De.name 11 rfl ?_ | refine De.name 12 rfl ?_ | refine De.name 13 rfl ?_
    | refine De.nat (n := 0) ?_ | refine De.nat (n := 1) ?_ | refine De.nat (n := 2) ?_ | refine De.nat ?_ | refine De.str ?_ | refine De.bl ?_ | refine De.non ?_
    | refine De.add ?_ | refine De.sub ?_ | refine De.mul ?_ | refine De.shl ?_ | refine De.shr ?_ | refine De.band ?_ | refine De.bor ?_ | refine De.bxor ?_ | refine De.mod ?_ | refine De.fdiv ?_ | refine De.pow ?_
    | refine De.eq ?_ | refine De.ne ?_ | refine De.lt ?_ | refine De.le ?_ | refine De.gt ?_ | refine De.ge ?_
    | refine De.chLL ?_ | refine De.chLl ?_
    | refine De.and1 ?_ | refine De.and ?_ | refine De.or ?_ | refine De.not ?_ | refine De.ite ?_
    | refine De.tup ?_ | refine De.lst ?_
    | refine De.rev ?_ | refine De.slLo ?_ | refine De.slHi ?_ | refine De.ix ?_ | refine De.fld ?_
    | refine De.isi (fun _ => Txt.isinstance) ?_ | refine De.len (fun _ => Txt.len) ?_ | refine De.toTup (fun _ => Txt.tuple) ?_ | refine De.toLst (fun _ => Txt.list) ?_ | refine De.toInt (fun _ => Txt.int) ?_ | refine De.allB (fun _ => Txt.all) ?_ | refine De.sum (fun _ => Txt.sum) ?_
    | refine De.min2 (fun _ => Txt.min) ?_ | refine De.abs (fun _ => Txt.abs) ?_ | refine De.sortI (fun _ => Txt.sorted) ?_
    | refine bcls (fun _ => Txt.int) boot_int ?_ | refine bcls (fun _ => Txt.bool) boot_bool ?_ | refine bcls (fun _ => Txt.tuple) boot_tuple ?_ | refine bcls (fun _ => Txt.str) boot_str ?_
    | refine ocls (fun _ => Txt.gS) ?_
    | refine gnat (fun _ => Txt.MOST_LEAVES) ?_ | refine gnat (fun _ => Txt.MOST_GATES) ?_ | refine gnat (fun _ => Txt.MOST_HELD) ?_ | refine gnat (fun _ => Txt.MOST_FREE) ?_ | refine gnat (fun _ => Txt.MOST_LAID) ?_ | refine gnat (fun _ => Txt.MOST_KIN) ?_)
  | ((with_reducible refine idDt ?_); first
    | refine Dt.eq ?_ | refine Dt.ne ?_ | refine Dt.lt ?_ | refine Dt.le ?_ | refine Dt.gt ?_ | refine Dt.ge ?_
    | refine Dt.not ?_ | refine Dt.or2 ?_ | refine Dt.and2 ?_ | refine Dt.or3 ?_ | refine Dt.truthB ?_ | refine Dt.val ?_)
  | ((with_reducible refine idDa ?_); first | refine Da.nil ?_ | refine Da.cons ?_)
  | ((with_reducible refine idDi ?_); first | refine Di.range1 (fun _ => Txt.range) ?_ | refine Di.range2 (fun _ => Txt.range) ?_ | refine Di.enum (fun _ => Txt.enumerate) ?_)
  | refine fun _ => ⟨Txt.cS.cl, Txt.nS _ (by decide), _, rfl, ?_⟩ | refine fun _ => ⟨Txt.cM.cl, Txt.nM _ (by decide), _, rfl, ?_⟩
  | refine fun _ => isi_int rfl ?_ | refine fun _ => isi_bool rfl ?_ | refine fun _ => isi_tuple rfl ?_ | refine fun _ => isi_str rfl ?_))
variable {G : Glo} [Txt G]
/-! ### _law_some, _law_hand -/
abbrev sSome : Stmt := topS 38
theorem scSome : FnScope ["hand", "things"] ["hand", "things"] (defScope sSome) := ⟨rfl, rfl, rfl, by decide +kernel, rfl, by decide +kernel, by decide +kernel⟩
def spSome : DSpec := fun ds Q => ∃ l : List D, ds = [.hand, .lst l] ∧ 1 ≤ l.length ∧ l.length ≤ 1000 ∧ ∀ d ∈ l, Q d
theorem ok_some {f : Addr} {fd : FuncData} {x qual : Str} (F : Fun G.K x qual sSome f fd) (cD : Callee G "_law_draw" spDraw 1) : FnOk G.P G.w G.K G.mg G.base CX0 2 f fd ["hand", "things"] (spD G.K spSome) := by
  refine defD F scSome (fun ds Q h => by obtain ⟨_, rfl, _⟩ := h; rfl) (fun ds Q h => ?_)
  obtain ⟨l, rfl, h1, h2, hq⟩ := h
  show Db _ [.sh .hand, .sh (.lst l)] _ _
  repeat walk_at "d"
  refine De.call cD ?_
  repeat walk_at "d"
  refine ⟨_, rfl, h1, by omega, fun d hd => ⟨Int.natCast_nonneg d, l[d], by rw [Int.toNat_natCast]; exact List.getElem?_eq_getElem hd, hq _ (List.getElem_mem hd)⟩⟩
theorem slTo {l : List D} {k : Nat} {Q : DQ} (h : Q (.lst (l.take k))) : dSl (.lst l) none (some (k : Int)) Q := by
  show Q (.lst ((l.drop 0).take (HT.sIx l.length l.length (some (k : Int)) - 0)))
  rw [HT.sIx_nat, List.drop_zero, Nat.sub_zero]
  have e : l.take (min k l.length) = l.take k := by
    rcases Nat.le_total k l.length with z | z
    · rw [Nat.min_eq_left z]
    · rw [Nat.min_eq_right z, List.take_length, List.take_of_length_le z]
  rw [e]
  exact h
theorem slToF {l : List Int} {k : Nat} {Q : DQ} (h : Q (.lst ((l.take k).map D.int))) : dSl (.frl l) none (some (k : Int)) Q := by
  show dSl (.lst (l.map D.int)) none (some (k : Int)) Q
  refine slTo ?_
  rw [List.map_take.symm]
  exact h
abbrev sHand : Stmt := topS 36
theorem scHand : FnScope ["script", "cells", "cell"] ["script"] (defScope sHand) := ⟨rfl, rfl, rfl, by decide +kernel, rfl, by decide +kernel, by decide +kernel⟩
def cellsOf (script : List Int) : List Int := (script.take 60).map fun x => (if x < 0 then -x else x) % 10 ^ 36
theorem cells_ok (script : List Int) : ∀ x ∈ cellsOf script, 0 ≤ x ∧ x < 10 ^ 36 := by
  intro x hx
  obtain ⟨y, _, rfl⟩ := List.mem_map.mp hx
  exact ⟨Int.emod_nonneg _ (by decide), Int.emod_lt_of_pos _ (by decide)⟩
def handD (script : List Int) : D := .lst [.lst ((cellsOf script).map D.int), .int 0, .int 0, .int ((13122 + 31 * (cellsOf script).length : Nat) : Int), .int 0]
def spHand : DSpec := fun ds Q => ∃ script : List Int, ds = [.frl script] ∧ Q (handD script)
theorem ok_hand {f : Addr} {fd : FuncData} {x qual : Str} (F : Fun G.K x qual sHand f fd) : FnOk G.P G.w G.K G.mg G.base CX0 1 f fd ["script"] (spD G.K spHand) := by
  refine defD F scHand (fun ds Q h => by obtain ⟨_, rfl, _⟩ := h; rfl) (fun ds Q h => ?_)
  obtain ⟨script, rfl, hq⟩ := h
  show Db _ [.sh (.frl script), .no, .no] _ _
  repeat walk_at "d"
  refine Ds.setLc 1 [("cell", 2)] .no (Tgt.name 2 (fun _ => scHand.nd)) (fun _ => blkOk_by (N := ["script", "cells", "cell"]) (sc := (defScope sHand)) (by decide +kernel)) (fun _ => scHand.nd) ?_
  refine Di.seq ?_
  repeat walk_at "d"
  show dSl (.frl script) none (some ((60 : Nat) : Int)) _
  refine slToF ?_
  refine itmL ?_
  have hl6 : (script.take 60).length ≤ 60 := by rw [List.length_take]; omega
  refine ⟨by rw [List.length_map, sizeLine_eq]; omega, lc_mapG D.int (fun x => D.int ((if x < 0 then -x else x) % 10 ^ 36)) (script.take 60) ?_ fun y hy Q' hq' => ?_⟩
  · have ec : (script.take 60).map (fun x => D.int ((if x < 0 then -x else x) % 10 ^ 36)) = (cellsOf script).map D.int := by
      unfold cellsOf
      rw [List.map_map]
      rfl
    rw [ec]
    have hcl : (cellsOf script).length ≤ 60 := by unfold cellsOf; rw [List.length_map]; exact hl6
    show Db _ [.sh (.frl script), .ow (.lst ((cellsOf script).map D.int)), .no] _ _
    refine Db.fz 1 rfl ?_
    show Db _ [.sh (.frl script), .sh (.lst ((cellsOf script).map D.int)), .no] _ _
    repeat walk_at "d"
    exact ⟨by rw [sizeLine_eq]; exact Nat.le_of_ble_eq_true rfl, hq⟩
  · repeat walk_at "d"
    refine intI ?_
    refine Da.nil ?_
    show De _ _ _ fun d => dMod (D.int (if y < 0 then -y else y)) d Q'
    repeat walk_at "d"
    refine powN (by decide) (by decide) ?_
    exact ⟨(by show (0 : Int) < ((10 ^ 36 : Nat) : Int); decide), hq'⟩
/-! ### _law_drawn -/
theorem xorAt_mem {l : List Nat} {i j k : Nat} (hi : i < l.length) (hj : j < l.length) (h : ∀ x ∈ l, x < 2 ^ k) : ∀ x ∈ xorAt l i j, x < 2 ^ k := by
  intro x hx
  rcases List.mem_or_eq_of_mem_set hx with hx | rfl
  · exact h x hx
  · exact Nat.xor_lt_two_pow (h _ (getD_mem hi)) (h _ (getD_mem hj))
theorem mixed_ok {held free one other : Nat} {own put : List Nat} (ok : NumsOk held free own put) (h1 : one < held) (h2 : other < held) : NumsOk held free ((xorAt own one other).map (mixRow one other)) (xorAt put one other) := by
  refine ⟨ok.h1, ok.h2, by rw [List.length_map]; unfold xorAt; rw [List.length_set]; exact ok.lo, by unfold xorAt; rw [List.length_set]; exact ok.lp, fun n hn => ?_, xorAt_mem (by rw [ok.lp]; exact h1) (by rw [ok.lp]; exact h2) ok.put⟩
  obtain ⟨r, hr, rfl⟩ := List.mem_map.mp hn
  have hr := xorAt_mem (by rw [ok.lo]; exact h1) (by rw [ok.lo]; exact h2) ok.own r hr
  unfold mixRow
  refine Nat.xor_lt_two_pow hr ?_
  have hb := bit2 r one
  calc (r >>> one &&& 1) * 2 ^ other ≤ 1 * 2 ^ other := Nat.mul_le_mul_right _ (by omega)
    _ < 2 ^ held := by rw [Nat.one_mul]; exact Nat.pow_lt_pow_right (by decide) h2
abbrev sDrawn : Stmt := topS 47
abbrev NDrawn : List Str := ["hand", "held", "free", "part", "own", "put", "at", "more", "turn", "one", "other"]
theorem scDrawn : FnScope NDrawn ["hand", "held", "free"] (defScope sDrawn) := ⟨rfl, rfl, rfl, by decide +kernel, rfl, by decide +kernel, by decide +kernel⟩
def spDrawn : DSpec := fun ds Q => ∃ held free : Nat, ds = [.hand, natD held, natD free] ∧ 1 ≤ held ∧ held ≤ 16 ∧ free ≤ 8 ∧ ∀ own put, NumsOk held free own put → Q (.tup [natsL own, natsL put])
theorem ok_drawn {f : Addr} {fd : FuncData} {x qual : Str} (F : Fun G.K x qual sDrawn f fd) (cD : Callee G "_law_draw" spDraw 1) (cM : Callee G "_law_mixed" spMixed 1) : FnOk G.P G.w G.K G.mg G.base CX0 2 f fd ["hand", "held", "free"] (spD G.K spDrawn) := by
  refine defD F scDrawn (fun ds Q h => by obtain ⟨_, _, rfl, _⟩ := h; rfl) (fun ds Q h => ?_)
  obtain ⟨held, free, rfl, h1, h2, h3, hq⟩ := h
  have hp16 : 2 ^ held ≤ 2 ^ 16 := Nat.pow_le_pow_right (by decide) h2
  have hp8 : 2 ^ free ≤ 2 ^ 8 := Nat.pow_le_pow_right (by decide) h3
  show Db _ [.sh .hand, .sh (natD held), .sh (natD free), .no, .no, .no, .no, .no, .no, .no, .no] _ _
  repeat walk_at "d"
  refine Ds.par3 3 4 5 (fun _ => scDrawn.nd) (Dl.sh ?_)
  repeat walk_at "d"
  refine De.call cD ?_
  repeat walk_at "d"
  refine ⟨held, rfl, h1, by omega, fun p0 hp0 => ?_⟩
  repeat walk_at "d"
  refine Dl.lst ?_
  repeat walk_at "d"
  refine ⟨Nat.zero_le _, Dl.lst ?_⟩
  repeat walk_at "d"
  refine ⟨Nat.zero_le _, ?_⟩
  generalize hpart : 1 + p0 = part
  have hp1 : part ≤ held := by omega
  show Db _ [.sh .hand, .sh (natD held), .sh (natD free), .sh (natD part), .ow (.lst []), .ow (.lst []), .no, .no, .no, .no, .no] _ _
  repeat walk_at "d"
  refine Ds.for_ (Tgt.name 6 (fun _ => scDrawn.nd)) ?_
  repeat walk_at "d"
  refine for_nats (fun n ρ => ∃ (own put : List Nat) (s6 s7 : Sl), own.length = n ∧ put.length = n ∧ (∀ x ∈ own, x < 2 ^ held) ∧ (∀ x ∈ put, x < 2 ^ free) ∧ ρ = [.sh .hand, .sh (natD held), .sh (natD free), .sh (natD part), .ow (.lst (own.map natD)), .ow (.lst (put.map natD)), s6, s7, .no, .no, .no])
    ⟨[], [], _, _, rfl, rfl, fun x hx => (by cases hx), fun x hx => (by cases hx), rfl⟩ (fun n ρ hn h => ?_) fun ρ h => ?_
  · obtain ⟨own, put, s6, s7, lo, lp, ho, hp, rfl⟩ := h
    have hsz : ∀ {l : List Nat}, l.length = n → (l.map natD).length < sizeLine := fun {l} e => by rw [List.length_map, e, sizeLine_eq]; omega
    have mem_app : ∀ {l : List Nat} {v B : Nat}, (∀ x ∈ l, x < B) → v < B → ∀ x ∈ l ++ [v], x < B := fun {l v B} h hv x hx => by
      rcases List.mem_append.mp hx with hx | hx
      · exact h x hx
      · cases List.mem_singleton.mp hx
        exact hv
    have app1 : ∀ (l : List Nat) (v : Nat), l.map natD ++ [natD v] = (l ++ [v]).map natD := fun l v => by rw [List.map_append]; rfl
    have pow0 : 0 < 2 ^ held := Nat.two_pow_pos _
    have pow0' : 0 < 2 ^ free := Nat.two_pow_pos _
    show Db _ [.sh .hand, .sh (natD held), .sh (natD free), .sh (natD part), .ow (.lst (own.map natD)), .ow (.lst (put.map natD)), .sh (natD n), s7, .no, .no, .no] _ _
    repeat walk_at "d"
    refine ⟨fun c => ?_, fun c => ?_⟩
    · have c := of_decide_eq_true c
      repeat walk_at "d"
      refine Ds.append 4 rfl (hsz lo) ?_
      refine De.mono (Q := fun d => ∃ v, v < 2 ^ held ∧ d = natD v) ?_ ?_
      · have hpw : 2 ^ n >>> 1 < 2 ^ held := by
          rw [Nat.shiftRight_eq_div_pow]
          exact Nat.lt_of_le_of_lt (Nat.div_le_self _ _) (Nat.pow_lt_pow_right (by decide) hn)
        repeat walk_at "d"
        refine De.call cD ?_
        repeat walk_at "d"
        refine ⟨3, rfl, by omega, by omega, fun d hd => ?_⟩
        repeat walk_at "d"
        refine ⟨fun _ => ?_, fun _ => ?_⟩
        · repeat walk_at "d"
          refine De.call cD ?_
          repeat walk_at "d"
          refine ⟨_, rfl, pow0, by omega, fun d2 hd2 => ?_⟩
          repeat walk_at "d"
          exact ⟨_, Nat.xor_lt_two_pow hpw hd2, rfl⟩
        · repeat walk_at "d"
          exact ⟨_, Nat.xor_lt_two_pow hpw pow0, rfl⟩
      · rintro d ⟨v, hv, rfl⟩
        rw [app1]
        show Db _ [.sh .hand, .sh (natD held), .sh (natD free), .sh (natD part), .ow (.lst ((own ++ [v]).map natD)), .ow (.lst (put.map natD)), .sh (natD n), s7, .no, .no, .no] _ _
        repeat walk_at "d"
        refine Dl.sh (De.mono (Q := fun d => ∃ v, v < 2 ^ free ∧ d = natD v) ?_ ?_)
        · repeat walk_at "d"
          refine De.call cD ?_
          repeat walk_at "d"
          refine ⟨4, rfl, by omega, by omega, fun d hd => ?_⟩
          repeat walk_at "d"
          refine ⟨fun _ => ?_, fun _ => ?_⟩
          · repeat walk_at "d"
            refine De.call cD ?_
            repeat walk_at "d"
            refine ⟨_, rfl, pow0', by omega, fun d2 hd2 => ?_⟩
            exact ⟨_, hd2, rfl⟩
          · repeat walk_at "d"
            exact ⟨0, pow0', rfl⟩
        · rintro d ⟨mo, hmo, rfl⟩
          show Db _ [.sh .hand, .sh (natD held), .sh (natD free), .sh (natD part), .ow (.lst ((own ++ [v]).map natD)), .ow (.lst (put.map natD)), .sh (natD n), .sh (natD mo), .no, .no, .no] _ _
          repeat walk_at "d"
          refine Ds.append 5 rfl (hsz lp) ?_
          refine De.mono (Q := fun d => ∃ v, v < 2 ^ free ∧ d = natD v) ?_ ?_
          · repeat walk_at "d"
            refine ⟨fun c2 => ?_, fun _ => ?_⟩
            · have c2 := of_decide_eq_true c2
              repeat walk_at "d"
              exact ⟨_, Nat.xor_lt_two_pow (Nat.pow_lt_pow_right (by decide) c2) hmo, rfl⟩
            · repeat walk_at "d"
              exact ⟨_, Nat.xor_lt_two_pow pow0' hmo, rfl⟩
          · rintro d ⟨v2, hv2, rfl⟩
            rw [app1]
            repeat walk_at "d"
            exact ⟨own ++ [v], put ++ [v2], _, _, by rw [List.length_append, lo]; rfl, by rw [List.length_append, lp]; rfl, mem_app ho hv, mem_app hp hv2, rfl⟩
    · have c := of_decide_eq_false c
      repeat walk_at "d"
      refine Ds.append 4 rfl (hsz lo) ?_
      refine De.mono (Q := fun d => ∃ v, v < 2 ^ held ∧ d = natD v) ?_ ?_
      · repeat walk_at "d"
        refine De.call cD ?_
        repeat walk_at "d"
        have h4 : 2 ^ (held - part) ≤ 2 ^ 16 := Nat.pow_le_pow_right (by decide) (by omega)
        refine ⟨_, rfl, Nat.two_pow_pos _, by omega, fun d2 hd2 => ?_⟩
        repeat walk_at "d"
        refine shlN (held - part) hd2 (by omega) ⟨_, ?_, rfl⟩
        have e : 2 ^ held = 2 ^ (held - part) * 2 ^ part := by rw [← Nat.pow_add]; congr 1; omega
        rw [e]
        exact Nat.mul_lt_mul_of_pos_right hd2 (Nat.two_pow_pos _)
      · rintro d ⟨v, hv, rfl⟩
        rw [app1]
        show Db _ [.sh .hand, .sh (natD held), .sh (natD free), .sh (natD part), .ow (.lst ((own ++ [v]).map natD)), .ow (.lst (put.map natD)), .sh (natD n), s7, .no, .no, .no] _ _
        repeat walk_at "d"
        refine Ds.append 5 rfl (hsz lp) ?_
        repeat walk_at "d"
        rw [show put.map natD ++ [D.int ((0 : Nat) : Int)] = (put ++ [0]).map natD from app1 put 0]
        exact ⟨own ++ [v], put ++ [0], _, _, by rw [List.length_append, lo]; rfl, by rw [List.length_append, lp]; rfl, mem_app ho hv, mem_app hp pow0', rfl⟩
  · obtain ⟨own, put, s6, s7, lo, lp, ho, hp, rfl⟩ := h
    have ok0 : NumsOk held free own put := ⟨h2, h3, lo, lp, ho, hp⟩
    refine Db.fz 4 rfl ?_
    refine Db.fz 5 rfl ?_
    show Db _ [.sh .hand, .sh (natD held), .sh (natD free), .sh (natD part), .sh (natsL own), .sh (natsL put), s6, s7, .no, .no, .no] _ _
    clear lo lp ho hp
    repeat walk_at "d"
    refine Ds.for_ (Tgt.name 8 (fun _ => scDrawn.nd)) ?_
    refine Di.range1 (fun _ => Txt.range) ?_
    refine Da.cons (De.mono (Q := fun d => ∃ k, k ≤ 40 ∧ (k = 0 ∨ 2 ≤ held) ∧ d = natD k) ?_ ?_)
    · repeat walk_at "d"
      refine ⟨fun c => ?_, fun c => ?_⟩
      · have c : (1 : Nat) < held := of_decide_eq_true c
        repeat walk_at "d"
        refine De.call cD ?_
        repeat walk_at "d"
        refine ⟨held, rfl, h1, by omega, fun d hd => ?_⟩
        repeat walk_at "d"
        exact ⟨held + d, by omega, .inr c, rfl⟩
      · repeat walk_at "d"
        exact ⟨0, Nat.zero_le _, .inl rfl, rfl⟩
    · rintro d ⟨k, hk, hk2, rfl⟩
      repeat walk_at "d"
      refine for_nats (fun n ρ => ∃ (own put : List Nat) (s6 s7 s8 s9 s10 : Sl), NumsOk held free own put ∧ ρ = [.sh .hand, .sh (natD held), .sh (natD free), .sh (natD part), .sh (natsL own), .sh (natsL put), s6, s7, s8, s9, s10])
        ⟨own, put, _, _, _, _, _, ok0, rfl⟩ (fun n ρ hn h => ?_) fun ρ h => ?_
      · obtain ⟨own, put, s6, s7, s8, s9, s10, ok, rfl⟩ := h
        have h2' : 2 ≤ held := by omega
        show Db _ [.sh .hand, .sh (natD held), .sh (natD free), .sh (natD part), .sh (natsL own), .sh (natsL put), s6, s7, .sh (natD n), s9, s10] _ _
        repeat walk_at "d"
        refine Dl.sh ?_
        refine De.call cD ?_
        repeat walk_at "d"
        refine ⟨held, rfl, h1, by omega, fun one hone => ?_⟩
        repeat walk_at "d"
        refine Dl.sh ?_
        repeat walk_at "d"
        refine De.call cD ?_
        repeat walk_at "d"
        refine ⟨held - 1, rfl, by omega, by omega, fun d2 hd2 => ?_⟩
        show dAdd (.int ((one + 1 : Nat) : Int)) (.int (d2 : Int)) _
        refine addN (Da.nil (intI ?_))
        repeat walk_at "d"
        have hother : (one + 1 + d2) % held < held := Nat.mod_lt _ (by omega)
        generalize (one + 1 + d2) % held = other at *
        show Ds _ [.sh .hand, .sh (natD held), .sh (natD free), .sh (natD part), .sh (natsL own), .sh (natsL put), s6, s7, .sh (natD n), .sh (natD one), .sh (natD other)] _ _
        refine Ds.unp (Tgt.two 4 5 (fun _ => scDrawn.nd)) ?_
        refine De.call cM ?_
        repeat walk_at "d"
        refine ⟨own, put, one, other, rfl, by rw [ok.lo]; omega, by rw [ok.lo, ok.lp], by rw [ok.lo]; exact hone, by rw [ok.lo]; exact hother, _, rfl, ?_⟩
        repeat walk_at "d"
        exact ⟨_, _, _, _, _, _, _, mixed_ok ok hone hother, rfl⟩
      · obtain ⟨own, put, s6, s7, s8, s9, s10, ok, rfl⟩ := h
        repeat walk_at "d"
        exact ⟨by rw [sizeLine_eq]; exact Nat.le_of_ble_eq_true rfl, hq own put ok⟩
end K13
set_option Elab.async false
set_option linter.all false
set_option maxRecDepth 100000
set_option maxHeartbeats 4000000
set_option pp.maxSteps 300
namespace K13
open PySem PySem.Spec PyProof.Rows L2 DL
local macro_rules | `(tactic| walk_at "d") => `(tactic| (first
  | with_reducible refine addN ?_ | with_reducible refine subN (by omega) ?_ | with_reducible refine mulN (by first | exact .inl (by decide) | exact .inr (by decide) | omega) ?_ | with_reducible refine andN ?_ | with_reducible refine orN ?_ | with_reducible refine xorN ?_
  | with_reducible refine modN (by first | decide | omega) ?_ | with_reducible refine fdivN (by first | decide | omega) (by first | decide | omega) ?_ | with_reducible refine shrN ?_ | with_reducible refine shl1 (by omega) ?_
  | with_reducible refine ltN ?_ | with_reducible refine leN ?_ | with_reducible refine gtN ?_ | with_reducible refine geN ?_ | with_reducible refine eqN ?_ | with_reducible refine neN ?_ | with_reducible refine absN ?_ | with_reducible refine minN ?_ | with_reducible refine intB ?_
  | with_reducible refine ixL (by with_unfolding_all rfl) ?_ | with_reducible refine ixT (by with_unfolding_all rfl) ?_
  | with_reducible refine rngN (by first | omega | decide) ?_
  | with_reducible refine lenTm ?_ | with_reducible refine lenLm ?_ | with_reducible refine lenT ?_ | with_reducible refine lenL ?_ | with_reducible refine tupL ?_ | with_reducible refine tupT ?_ | with_reducible refine lstL ?_ | with_reducible refine lstT ?_ | with_reducible refine itmL ?_ | with_reducible refine itmT ?_ | with_reducible refine enmL ?_ | with_reducible refine enmT ?_ | with_reducible refine eqS ?_ | with_reducible refine neS ?_ | with_reducible refine revL ?_
  | ((with_reducible refine idDb ?_); first | refine Db.one ?_ | refine Db.cons ?_ | refine Db.nil ?_)
  | ((with_reducible refine idDs ?_); first | refine Ds.ret ?_ | refine Ds.if_ ?_ | refine Ds.set' 0 ?_ | refine Ds.set' 1 ?_ | refine Ds.set' 2 ?_ | refine Ds.set' 3 ?_ | refine Ds.set' 4 ?_ | refine Ds.set' 5 ?_ | refine Ds.set' 6 ?_ | refine Ds.set' 7 ?_ | refine Ds.set' 8 ?_ | refine Ds.set' 9 ?_ | refine Ds.set' 10 ?_ | refine Ds.set' 11 ?_ | refine Ds.set' 12 ?_ | refine Ds.set' 13 ?_)
  | ((with_reducible refine idDe ?_); first
    | refine De.name 0 rfl ?_ | refine De.name 1 rfl ?_ | refine De.name 2 rfl ?_ | refine De.name 3 rfl ?_ | refine De.name 4 rfl ?_ | refine De.name 5 rfl ?_ | refine De.name 6 rfl ?_ | refine De.name 7 rfl ?_ | refine De.name 8 rfl ?_ | refine De.name 9 rfl ?_ | refine De.name 10 rfl ?_ | refine De.name 11 rfl ?_ | refine De.name 12 rfl ?_ | refine De.name 13 rfl ?_
    | refine De.nat (n := 0) ?_ | refine De.nat (n := 1) ?_ | refine De.nat (n := 2) ?_ | refine De.nat ?_ | refine De.str ?_ | refine De.bl ?_ | refine De.non ?_
    | refine De.add ?_ | refine De.sub ?_ | refine De.mul ?_ | refine De.shl ?_ | refine De.shr ?_ | refine De.band ?_ | refine De.bor ?_ | refine De.bxor ?_ | refine De.mod ?_ | refine De.fdiv ?_ | refine De.pow ?_
    | refine De.eq ?_ | refine De.ne ?_ | refine De.lt ?_ | refine De.le ?_ | refine De.gt ?_ | refine De.ge ?_
    | refine De.chLL ?_ | refine De.chLl ?_
    | refine De.and1 ?_ | refine De.and ?_ | refine De.or ?_ | refine De.not ?_ | refine De.ite ?_
    | refine De.tup ?_ | refine De.lst ?_
    | refine De.rev ?_ | refine De.slLo ?_ | refine De.slHi ?_ | refine De.ix ?_ | refine De.fld ?_
    | refine De.isi (fun _ => Txt.isinstance) ?_ | refine De.len (fun _ => Txt.len) ?_ | refine De.toTup (fun _ => Txt.tuple) ?_ | refine De.toLst (fun _ => Txt.list) ?_ | refine De.toInt (fun _ => Txt.int) ?_ | refine De.allB (fun _ => Txt.all) ?_ | refine De.sum (fun _ => Txt.sum) ?_
    | refine De.min2 (fun _ => Txt.min) ?_ | refine De.abs (fun _ => Txt.abs) ?_ | refine De.sortI (fun _ => Txt.sorted) ?_
    | refine bcls (fun _ => Txt.int) boot_int ?_ | refine bcls (fun _ => Txt.bool) boot_bool ?_ | refine bcls (fun _ => Txt.tuple) boot_tuple ?_ | refine bcls (fun _ => Txt.str) boot_str ?_
    | refine ocls (fun _ => Txt.gS) ?_
    | refine gnat (fun _ => Txt.MOST_LEAVES) ?_ | refine gnat (fun _ => Txt.MOST_GATES) ?_ | refine gnat (fun _ => Txt.MOST_HELD) ?_ | refine gnat (fun _ => Txt.MOST_FREE) ?_ | refine gnat (fun _ => Txt.MOST_LAID) ?_ | refine gnat (fun _ => Txt.MOST_KIN) ?_)
  | ((with_reducible refine idDt ?_); first
    | refine Dt.eq ?_ | refine Dt.ne ?_ | refine Dt.lt ?_ | refine Dt.le ?_ | refine Dt.gt ?_ | refine Dt.ge ?_
    | refine Dt.not ?_ | refine Dt.or2 ?_ | refine Dt.and2 ?_ | refine Dt.or3 ?_ | refine Dt.truthB ?_ | refine Dt.val ?_)
  | ((with_reducible refine idDa ?_); first | refine Da.nil ?_ | refine Da.cons ?_)
  | ((with_reducible refine idDi ?_); first | refine Di.range1 (fun _ => Txt.range) ?_ | refine Di.range2 (fun _ => Txt.range) ?_ | refine Di.enum (fun _ => Txt.enumerate) ?_)
  | refine fun _ => ⟨Txt.cS.cl, Txt.nS _ (by decide), _, rfl, ?_⟩ | refine fun _ => ⟨Txt.cM.cl, Txt.nM _ (by decide), _, rfl, ?_⟩
  | refine fun _ => isi_int rfl ?_ | refine fun _ => isi_bool rfl ?_ | refine fun _ => isi_tuple rfl ?_ | refine fun _ => isi_str rfl ?_))
variable {G : Glo} [Txt G]
/-! ### _law_word -/
abbrev sWord : Stmt := topS 54
theorem scWord : FnScope ["call", "error"] ["call"] (defScope sWord) := ⟨rfl, rfl, rfl, by decide +kernel, rfl, by decide +kernel, by decide +kernel⟩
/-- the length of the slots is known when an error is looked at -/
theorem takes_len {X : Cx} {W : WX} (tk : Takes X W) : Takes X (fun cls d σ H => σ.length = X.N.length → W cls d σ H) := fun u s' ⟨a, B, sI, pins, σ, H, cls, d, e, I, nb, up, sky, na, os, ag, w⟩ =>
  tk u s' ⟨a, B, sI, pins, σ, H, cls, d, e, I, nb, up, sky, na, os, ag, w I.len⟩
/-- the call surely raises the error CB -/
def TTban (CB : Addr) : (XK → Hp → VK → Prop) → Hp → VK → Prop := fun tl H Q => ∀ (E : XK) (Q' : VK), (∀ H', Q (.str "ban") H' → E (.ref CB) none H') → tl E H Q'
theorem word_gives {X : Cx} {g : Addr} {cdg : Value} {q : Str} {CB : Addr} (mB : X.mg "NoBan" = some (.ref CB)) (mI : X.mg "isinstance" = none) (mV : X.mg "ValueError" = none) (hx : PySem.W.exmOne X.K (.ref CB) (.ref CB) = some true) (eC : ExcC X.K CB) (hk : PySem.W.kitOne X.K (.ref CB) (.type "ValueError") = some true) :
    LamX.GivesTo X ["call", "error"] "_law_word" (defScope sWord) g cdg (defBody sWord) "call" q (TTban CB) := by
  intro f c' s H Q tl act hc h
  refine ⟨_, pss_cons (ps_try_asT (X := (cxOf C8.CX0 X.prog X.w X.K X.mg X.base ["call", "error"] "_law_word" (defScope sWord) g cdg X.A X.stack s H C8.E0).nox) (c := .ref CB) (i := 1)
      (tb := fun W D σ H => σ[0]? = some (some (.ref f)) ∧ H c' = some (LamX.CodeO c' q) ∧ tl (fun cls d H' => ∀ σ' : L2.St, σ'.length = 2 → W cls d σ' H') H fun _ H1 => D.nx σ H1)
      (ts := fun a cls d D σ H => cls = .ref CB ∧ d = none ∧ σ[1]? = some (some (.ref a)) ∧ D.rt (.str "ban") H)
      rfl rfl scWord.nd rfl rfl ⟨rfl, by decide, .inl mB⟩ (fun W pn xe tk _ => ?_) (fun a oe cls d pn hz hf => ?_)) pss_never, ?_⟩
  · exact PSs.imp (pss_one (ps_expr (act _ pn xe (fun cls d H' => ∀ σ' : L2.St, σ'.length = 2 → W cls d σ' H') _ _ (takes_len tk) (fun cls d σ' H' e hl => e σ' hl)))) fun D σ H h' => h'
  · by_cases hcd : cls = .ref CB ∧ d = none
    · obtain ⟨rfl, rfl⟩ := hcd
      refine PSs.imp (pss_one (ps_ret (pe_ifExp (pt_val (pe_callB (call_isE (X := (cxOf C8.CX0 X.prog X.w X.K X.mg X.base ["call", "error"] "_law_word" (defScope sWord) g cdg X.A X.stack s H C8.E0).nox) (a := a) (pn := pn) eC hz hf) rfl mI (by decide +kernel)
        (pa_cons (pe_var (i := 1) rfl (.inl rfl)) (pa_cons (pe_bltn (v := .ty "ValueError") rfl mV (by decide +kernel) rfl) pa_nil)))) pe_str pe_str))) fun D σ H h' => ?_
      obtain ⟨_, _, h1, h2⟩ := h'
      exact ⟨_, h1, .ty "ValueError", .type "ValueError", true, rfl, fun u r => r, hk, true, rfl, h2⟩
    · exact PSs.imp pss_never fun D σ H h' => hcd ⟨h'.1, h'.2.1⟩
  · refine ⟨rfl, hc, h _ _ fun H' q σ' hl => ⟨hx, fun a _ => ⟨rfl, rfl, ?_, q⟩⟩⟩
    rw [List.getElem?_set_self (by omega)]
end K13
set_option Elab.async false
set_option linter.all false
set_option maxRecDepth 100000
set_option maxHeartbeats 4000000
set_option pp.maxSteps 300
namespace K13
open PySem PySem.Spec PyProof.Rows L2 DL
local macro_rules | `(tactic| walk_at "d") => `(tactic| (first
  | with_reducible refine addN ?_ | with_reducible refine subN (by omega) ?_ | with_reducible refine mulN (by first | exact .inl (by decide) | exact .inr (by decide) | omega) ?_ | with_reducible refine andN ?_ | with_reducible refine orN ?_ | with_reducible refine xorN ?_
  | with_reducible refine modN (by first | decide | omega) ?_ | with_reducible refine fdivN (by first | decide | omega) (by first | decide | omega) ?_ | with_reducible refine shrN ?_ | with_reducible refine shl1 (by omega) ?_
  | with_reducible refine ltN ?_ | with_reducible refine leN ?_ | with_reducible refine gtN ?_ | with_reducible refine geN ?_ | with_reducible refine eqN ?_ | with_reducible refine neN ?_ | with_reducible refine absN ?_ | with_reducible refine minN ?_ | with_reducible refine intB ?_
  | with_reducible refine ixL (by with_unfolding_all rfl) ?_ | with_reducible refine ixT (by with_unfolding_all rfl) ?_
  | with_reducible refine rngN (by first | omega | decide) ?_
  | with_reducible refine lenTm ?_ | with_reducible refine lenLm ?_ | with_reducible refine lenT ?_ | with_reducible refine lenL ?_ | with_reducible refine tupL ?_ | with_reducible refine tupT ?_ | with_reducible refine lstL ?_ | with_reducible refine lstT ?_ | with_reducible refine itmL ?_ | with_reducible refine itmT ?_ | with_reducible refine enmL ?_ | with_reducible refine enmT ?_ | with_reducible refine eqS ?_ | with_reducible refine neS ?_ | with_reducible refine revL ?_
  | ((with_reducible refine idDb ?_); first | refine Db.one ?_ | refine Db.cons ?_ | refine Db.nil ?_)
  | ((with_reducible refine idDs ?_); first | refine Ds.ret ?_ | refine Ds.if_ ?_ | refine Ds.set' 0 ?_ | refine Ds.set' 1 ?_ | refine Ds.set' 2 ?_ | refine Ds.set' 3 ?_ | refine Ds.set' 4 ?_ | refine Ds.set' 5 ?_ | refine Ds.set' 6 ?_ | refine Ds.set' 7 ?_ | refine Ds.set' 8 ?_ | refine Ds.set' 9 ?_ | refine Ds.set' 10 ?_ | refine Ds.set' 11 ?_ | refine Ds.set' 12 ?_ | refine Ds.set' 13 ?_)
  | ((with_reducible refine idDe ?_); first
    | refine De.name 0 rfl ?_ | refine De.name 1 rfl ?_ | refine De.name 2 rfl ?_ | refine De.name 3 rfl ?_ | refine De.name 4 rfl ?_ | refine De.name 5 rfl ?_ | refine De.name 6 rfl ?_ | refine De.name 7 rfl ?_ | refine De.name 8 rfl ?_ | refine De.name 9 rfl ?_ | refine De.name 10 rfl ?_ | refine De.name 11 rfl ?_ | refine De.name 12 rfl ?_ | refine De.name 13 rfl ?_
    | refine De.nat (n := 0) ?_ | refine De.nat (n := 1) ?_ | refine De.nat (n := 2) ?_ | refine De.nat ?_ | refine De.str ?_ | refine De.bl ?_ | refine De.non ?_
    | refine De.add ?_ | refine De.sub ?_ | refine De.mul ?_ | refine De.shl ?_ | refine De.shr ?_ | refine De.band ?_ | refine De.bor ?_ | refine De.bxor ?_ | refine De.mod ?_ | refine De.fdiv ?_ | refine De.pow ?_
    | refine De.eq ?_ | refine De.ne ?_ | refine De.lt ?_ | refine De.le ?_ | refine De.gt ?_ | refine De.ge ?_
    | refine De.chLL ?_ | refine De.chLl ?_
    | refine De.and1 ?_ | refine De.and ?_ | refine De.or ?_ | refine De.not ?_ | refine De.ite ?_
    | refine De.tup ?_ | refine De.lst ?_
    | refine De.rev ?_ | refine De.slLo ?_ | refine De.slHi ?_ | refine De.ix ?_ | refine De.fld ?_
    | refine De.isi (fun _ => Txt.isinstance) ?_ | refine De.len (fun _ => Txt.len) ?_ | refine De.toTup (fun _ => Txt.tuple) ?_ | refine De.toLst (fun _ => Txt.list) ?_ | refine De.toInt (fun _ => Txt.int) ?_ | refine De.allB (fun _ => Txt.all) ?_ | refine De.sum (fun _ => Txt.sum) ?_
    | refine De.min2 (fun _ => Txt.min) ?_ | refine De.abs (fun _ => Txt.abs) ?_ | refine De.sortI (fun _ => Txt.sorted) ?_
    | refine bcls (fun _ => Txt.int) boot_int ?_ | refine bcls (fun _ => Txt.bool) boot_bool ?_ | refine bcls (fun _ => Txt.tuple) boot_tuple ?_ | refine bcls (fun _ => Txt.str) boot_str ?_
    | refine ocls (fun _ => Txt.gS) ?_
    | refine gnat (fun _ => Txt.MOST_LEAVES) ?_ | refine gnat (fun _ => Txt.MOST_GATES) ?_ | refine gnat (fun _ => Txt.MOST_HELD) ?_ | refine gnat (fun _ => Txt.MOST_FREE) ?_ | refine gnat (fun _ => Txt.MOST_LAID) ?_ | refine gnat (fun _ => Txt.MOST_KIN) ?_)
  | ((with_reducible refine idDt ?_); first
    | refine Dt.eq ?_ | refine Dt.ne ?_ | refine Dt.lt ?_ | refine Dt.le ?_ | refine Dt.gt ?_ | refine Dt.ge ?_
    | refine Dt.not ?_ | refine Dt.or2 ?_ | refine Dt.and2 ?_ | refine Dt.or3 ?_ | refine Dt.truthB ?_ | refine Dt.val ?_)
  | ((with_reducible refine idDa ?_); first | refine Da.nil ?_ | refine Da.cons ?_)
  | ((with_reducible refine idDi ?_); first | refine Di.range1 (fun _ => Txt.range) ?_ | refine Di.range2 (fun _ => Txt.range) ?_ | refine Di.enum (fun _ => Txt.enumerate) ?_)
  | refine fun _ => ⟨Txt.cS.cl, Txt.nS _ (by decide), _, rfl, ?_⟩ | refine fun _ => ⟨Txt.cM.cl, Txt.nM _ (by decide), _, rfl, ?_⟩
  | refine fun _ => isi_int rfl ?_ | refine fun _ => isi_bool rfl ?_ | refine fun _ => isi_tuple rfl ?_ | refine fun _ => isi_str rfl ?_))
variable {G : Glo} [Txt G]
/-! ### law: a turn, up to the last test -/
variable [TxtX G]
abbrev sLaw : Stmt := topS 55
abbrev NLaw : List Str := ["script", "hand", "held", "free", "own", "put", "machine", "shown", "told", "due", "is_turned", "bad", "turn", "lot"]
theorem scLaw : FnScope NLaw ["script"] (defScope sLaw) := ⟨rfl, rfl, rfl, by decide +kernel, rfl, by decide +kernel, by decide +kernel⟩
def forBody : Stmt → List Stmt
  | .For _ _ b _ _ => b
  | _ => []
abbrev lawB : List Stmt := forBody ((defBody sLaw).getD 1 (.Pass ⟨0, 0, 0, 0⟩))
/-- draws one after the other -/
theorem lc_any {F : Fam} {ρw : Rho} {el : Rho → DQ → Prop} {j : Nat} (B : Nat) (f : Nat → D) (l : List Nat) {Q : List D → Prop} (q : ∀ vs : List Nat, vs.length = l.length → (∀ v ∈ vs, v < B) → Q (vs.map natD)) (h : ∀ d ∈ l, ∀ Q' : DQ, (∀ v, v < B → Q' (natD v)) → el (ρw.set j (.sh (f d))) Q') : lcD (.name j) ρw (Ifs.no.D F) el (l.map f) Q := by
  induction l generalizing Q with
  | nil => exact q [] rfl fun v hv => by cases hv
  | cons d ds ih =>
    refine ⟨_, rfl, fun _ => h d List.mem_cons_self _ fun v hv => ih (Q := fun ys => Q (natD v :: ys)) (fun vs hl hb => q (v :: vs) (by rw [List.length_cons, hl]; rfl) fun x hx => ?_) (fun x hx => h x (List.mem_cons_of_mem _ hx)), fun z => nomatch z⟩
    rcases List.mem_cons.mp hx with rfl | hx
    · exact hv
    · exact hb x hx
theorem shaped_due (Ls : List (List (List Bool))) : SeqAt.shaped (D.tup (Ls.map lotD)).py2 = true := by
  have h1 : ∀ l : List Bool, PyData.canLayAll0 (pys (l.map D.bl)) = true := fun l => by
    induction l with
    | nil => rfl
    | cons b l ih => exact Bool.and_eq_true_iff.mpr ⟨rfl, ih⟩
  have h2 : ∀ l : List (List Bool), PyData.canLayAll0 (pys (l.map boolsD)) = true := fun l => by
    induction l with
    | nil => rfl
    | cons b l ih => exact Bool.and_eq_true_iff.mpr ⟨h1 b, ih⟩
  have h3 : ∀ l : List (List (List Bool)), PyData.canLayAll0 (pys (l.map lotD)) = true := fun l => by
    induction l with
    | nil => rfl
    | cons b l ih => exact Bool.and_eq_true_iff.mpr ⟨h2 b, ih⟩
  have h4 : ∀ l : List (List (List Bool)), PyData.depthAll (pys (l.map lotD)) ≤ 2 := fun l => by
    induction l with
    | nil => exact Nat.zero_le _
    | cons b l ih =>
      show max (PyData.depthAll (pys (b.map boolsD)) + 1) (PyData.depthAll (pys (l.map lotD))) ≤ 2
      have := depthAll_rows b
      exact Nat.max_le.mpr ⟨by omega, ih⟩
  refine Bool.and_eq_true_iff.mpr ⟨h3 Ls, decide_eq_true ?_⟩
  show PyData.depthAll (pys (Ls.map lotD)) + 1 ≤ 64
  have := h4 Ls
  omega
structure LawC (G : Glo) [Txt G] : Prop where
  draw : Callee G "_law_draw" spDraw 1
  drawn : Callee G "_law_drawn" spDrawn 2
  made : Callee G "_law_made" (spMade G) 8
  some : Callee G "_law_some" spSome 2
  told : Callee G "_law_told_by" spToldBy 2
  classes : Callee G "_law_classes" (spClasses G) 2
  kin : Callee G "kin_stands" (spKin G) 5
  said : Callee G "_law_sum_said" (spSumSaid G) 6
/-- what the last test needs: a machine, and what is no saying over its held flags -/
def PreOk (G : Glo) [Txt G] (ρ : Rho) : Prop := ∃ (M : Mach) (d : D), ρ.length = 14 ∧ ρ[1]? = some (.sh .hand) ∧ ρ[6]? = some (.sh (M.d G)) ∧ ρ[11]? = some (.sh d) ∧ saysN G d M.held false
theorem law_pre (c : LawC G) {held : Nat} (h1 : 1 ≤ held) (h8 : held ≤ 8) : Db (fam G NLaw "law" (defScope sLaw) 8) [.no, .sh .hand, .sh (natD held), .no, .no, .no, .no, .no, .no, .no, .no, .no, .no, .no] (lawB.take 9) { nx := PreOk G } := by
  have hp8 : 2 ^ held ≤ 2 ^ 8 := Nat.pow_le_pow_right (by decide) h8
  have pow0 : 0 < 2 ^ held := Nat.two_pow_pos _
  show Db _ _ [_, _, _, _, _, _, _, _, _] _
  repeat walk_at "d"
  refine Dl.sh ?_
  repeat walk_at "d"
  refine De.call c.draw ?_
  repeat walk_at "d"
  refine ⟨2, rfl, by omega, by omega, fun f0 hf0 => ?_⟩
  repeat walk_at "d"
  generalize hfree : 1 + f0 = free
  show Ds _ [.no, .sh .hand, .sh (natD held), .sh (natD free), .no, .no, .no, .no, .no, .no, .no, .no, .no, .no] _ _
  refine Ds.unp (Tgt.two 4 5 (fun _ => scLaw.nd)) ?_
  refine De.call c.drawn ?_
  repeat walk_at "d"
  refine ⟨held, free, rfl, h1, by omega, by omega, fun own put ok => ⟨_, rfl, ?_⟩⟩
  show Db _ [.no, .sh .hand, .sh (natD held), .sh (natD free), .sh (natsL own), .sh (natsL put), .no, .no, .no, .no, .no, .no, .no, .no] _ _
  repeat walk_at "d"
  refine Dl.sh ?_
  refine De.call c.made ?_
  repeat walk_at "d"
  refine De.lc [("turn", 12)] .no (Tgt.name 12 (fun _ => scLaw.nd)) (fun _ => blkOk_by (N := NLaw) (sc := (defScope sLaw)) (by decide +kernel)) (fun _ => scLaw.nd) ?_
  repeat walk_at "d"
  refine De.call c.draw ?_
  repeat walk_at "d"
  refine ⟨3, rfl, by omega, by omega, fun nb hnb => ?_⟩
  repeat walk_at "d"
  refine ⟨by rw [natsD_len, sizeLine_eq]; omega, lc_any (2 ^ held) natD (List.range nb) (fun begun hbl hbb => ?_) (fun i hi Q' hQ => ?_)⟩
  rotate_left
  · refine De.call c.draw ?_
    repeat walk_at "d"
    exact ⟨_, rfl, pow0, by omega, hQ⟩
  repeat walk_at "d"
  rw [List.length_range] at hbl
  refine ⟨held, free, own, put, begun, rfl, ok, by omega, fun start hst => ?_⟩
  have mok : (madeM held free own put start).Go G := ⟨sumsM_ok ok.rows hst, by show held + free ≤ 16; omega, fun i hi => made_lets ok hi⟩
  show Db _ [.no, .sh .hand, .sh (natD held), .sh (natD free), .sh (natsL own), .sh (natsL put), .sh ((madeM held free own put start).d G), .no, .no, .no, .no, .no, .no, .no] _ _
  repeat walk_at "d"
  refine Dl.sh ?_
  refine De.call c.some ?_
  repeat walk_at "d"
  refine De.call c.draw ?_
  repeat walk_at "d"
  refine ⟨_, rfl, pow0, by omega, fun v1 hv1 => ?_⟩
  repeat walk_at "d"
  refine De.call c.draw ?_
  repeat walk_at "d"
  refine ⟨held, rfl, h1, by omega, fun v2 hv2 => ?_⟩
  repeat walk_at "d"
  refine ⟨by rw [sizeLine_eq]; exact Nat.le_of_ble_eq_true rfl, Da.nil ⟨_, rfl, Nat.le_of_ble_eq_true rfl, Nat.le_of_ble_eq_true rfl, fun d hd => ?_⟩⟩
  obtain ⟨shown, hs, rfl⟩ : ∃ v, v < 2 ^ held ∧ d = natD v := by
    rcases List.mem_cons.mp hd with rfl | hd
    · exact ⟨_, hv1, rfl⟩
    rcases List.mem_cons.mp hd with rfl | hd
    · exact ⟨_, Nat.pow_lt_pow_right (by decide) hv2, rfl⟩
    rcases List.mem_cons.mp hd with rfl | hd
    · exact ⟨0, pow0, rfl⟩
    · cases hd
  clear hd
  obtain ⟨n, hn, hn1, hn2⟩ := exists_told (own := own) (s := shown) ok.lo hs
  have hstr := told_straight (own := own) (s := shown) ok.lo hs n
  have htl := told_len (own := own) (s := shown) n hn1
  obtain ⟨Ls, hdue, hLs, hlots⟩ := due_form hstr
  have hend := fun (t : Bool) => classes_end (T := sayT held (saidS held shown).1 (turn t (saidS held shown).2)) (t := t) ok (start := start) hs (fun st hst => said_bit t (by omega) hs hst) hn1 hn2
  show Db _ [.no, .sh .hand, .sh (natD held), .sh (natD free), .sh (natsL own), .sh (natsL put), .sh ((madeM held free own put start).d G), .sh (natD shown), .no, .no, .no, .no, .no, .no] _ _
  repeat walk_at "d"
  refine Dl.sh ?_
  refine De.call c.told ?_
  repeat walk_at "d"
  refine ⟨own, shown, n, rfl, by rw [ok.lo]; omega, by omega, hn1, hn2, ?_⟩
  generalize baseOf (orbit (turned own own.length) shown n) = told at *
  show Db _ [.no, .sh .hand, .sh (natD held), .sh (natD free), .sh (natsL own), .sh (natsL put), .sh ((madeM held free own put start).d G), .sh (natD shown), .sh (natsL told), .no, .no, .no, .no, .no] _ _
  repeat walk_at "d"
  refine Dl.sh ?_
  refine De.call c.classes ?_
  repeat walk_at "d"
  refine ⟨held, told, rfl, h1, by omega, by omega, ?_⟩
  have hLb : Ls.length ≤ 2 ^ 8 := by
    rw [hLs]
    exact Nat.pow_le_pow_right (by decide) (by omega)
  rw [hdue]
  show Db _ [.no, .sh .hand, .sh (natD held), .sh (natD free), .sh (natsL own), .sh (natsL put), .sh ((madeM held free own put start).d G), .sh (natD shown), .sh (natsL told), .sh (.tup (Ls.map lotD)), .no, .no, .no, .no] _ _
  repeat walk_at "d"
  refine ⟨fun cc => ?_, fun _ => ?_⟩
  · exfalso
    rw [decide_eq_true hLs] at cc
    exact absurd cc (by decide)
  refine Dt.neD ?_
  refine De.lc [("lot", 13)] (.one _) (Tgt.name 13 (fun _ => scLaw.nd)) (fun _ => blkOk_by (N := NLaw) (sc := (defScope sLaw)) (by decide +kernel)) (fun _ => scLaw.nd) ?_
  refine Di.seq ?_
  repeat walk_at "d"
  refine ⟨by rw [List.length_map, sizeLine_eq]; omega, lc_ifG lotD lotD (fun _ => false) Ls ?_ (fun d hd Q' hq' => ?_) fun d hd z => nomatch z⟩
  rotate_left
  · have hdl := hlots d hd
    repeat walk_at "d"
    show dLen [.tup (d.map boolsD)] _
    repeat walk_at "d"
    rw [decide_eq_true hdl]
    exact hq'
  rw [show Ls.filter (fun _ => false) = [] from List.filter_eq_nil_iff.mpr fun _ _ z => nomatch z]
  show De _ _ _ fun y => dNeD (.lst []) y _
  repeat walk_at "d"
  refine ⟨Nat.zero_le _, ⟨rfl, rfl, by decide +kernel, by decide +kernel⟩, ?_⟩
  have e0 : (!PyData.eqv (D.lst []).py2 (D.lst []).py2) = false := by
    show (!PyData.eqv (.list []) (.list [])) = false
    simp [PyData.eqv, PyData.eqvAll]
  rw [e0]
  refine ⟨fun z => (nomatch z), fun _ => ?_⟩
  repeat walk_at "d"
  refine Ds.for_ (Tgt.name 10 (fun _ => scLaw.nd)) ?_
  refine Di.seq ?_
  repeat walk_at "d"
  refine ⟨Nat.le_of_ble_eq_true rfl, ?_⟩
  refine itmT ?_
  refine for_mapG D.bl (fun _ ρ => ∃ s10, ρ = [.no, .sh .hand, .sh (natD held), .sh (natD free), .sh (natsL own), .sh (natsL put), .sh ((madeM held free own put start).d G), .sh (natD shown), .sh (natsL told), .sh (.tup (Ls.map lotD)), s10, .no, .no, .no]) [false, true] ⟨_, rfl⟩ (fun pre t post ρ e h => ?_) fun ρ h => ?_
  · obtain ⟨s10, rfl⟩ := h
    obtain ⟨k, k1, k2, k3⟩ := hend t
    have hkin : kinD held (marksAt (sayT held (saidS held shown).1 (turn t (saidS held shown).2)) (madeM held free own put start).graph (k + 1)) = .tup (Ls.map lotD) := by
      rw [← hdue]
      exact kin_due (by rw [marksAt_len, graph_len]; rfl) k3
    have so := saidS_ok hs
    have sl := saidS_len held shown
    show Db _ [.no, .sh .hand, .sh (natD held), .sh (natD free), .sh (natsL own), .sh (natsL put), .sh ((madeM held free own put start).d G), .sh (natD shown), .sh (natsL told), .sh (.tup (Ls.map lotD)), .sh (.bl t), .no, .no, .no] _ _
    refine Db.one (Ds.if_ (Dt.neD ?_))
    refine De.call c.kin ?_
    repeat walk_at "d"
    refine De.call c.said ?_
    repeat walk_at "d"
    refine ⟨held, shown, t, rfl, by omega, hs, ?_⟩
    repeat walk_at "d"
    refine ⟨madeM held free own put start, _, _, k, rfl, mok, h8, h1, ⟨by show held ≤ 16; omega, by omega, so.ok, turn_lt so.ref⟩, k1, k2, ?_⟩
    show De _ _ _ fun y => dNeD (kinD held (marksAt (sayT held (saidS held shown).1 (turn t (saidS held shown).2)) (madeM held free own put start).graph (k + 1))) y _
    rw [hkin]
    repeat walk_at "d"
    refine ⟨⟨nk_due Ls, nk_due Ls, shaped_due Ls, shaped_due Ls⟩, ?_⟩
    rw [eqv_due Ls]
    refine ⟨fun z => (nomatch z), fun _ => ?_⟩
    repeat walk_at "d"
    exact ⟨_, rfl⟩
  · obtain ⟨s10, rfl⟩ := h
    show Db _ [.no, .sh .hand, .sh (natD held), .sh (natD free), .sh (natsL own), .sh (natsL put), .sh ((madeM held free own put start).d G), .sh (natD shown), .sh (natsL told), .sh (.tup (Ls.map lotD)), s10, .no, .no, .no] _ _
    refine Db.one ?_
    repeat walk_at "d"
    refine Dl.sh ?_
    refine De.call c.some ?_
    repeat walk_at "d"
    refine De.call c.said ?_
    repeat walk_at "d"
    refine ⟨held + 1, 1, false, rfl, by omega, Nat.lt_of_lt_of_le (by decide : 1 < 2 ^ 1) (Nat.pow_le_pow_right (by decide) (by omega)), ?_⟩
    repeat walk_at "d"
    refine ⟨by rw [sizeLine_eq]; exact Nat.le_of_ble_eq_true rfl, ?_⟩
    repeat walk_at "d"
    refine ⟨by rw [sizeLine_eq]; exact Nat.le_of_ble_eq_true rfl, ?_⟩
    repeat walk_at "d"
    refine ⟨by rw [sizeLine_eq]; exact Nat.le_of_ble_eq_true rfl, Da.nil ⟨_, rfl, Nat.le_of_ble_eq_true rfl, Nat.le_of_ble_eq_true rfl, fun d hd => ⟨madeM held free own put start, d, rfl, rfl, rfl, rfl, ?_⟩⟩⟩
    show saysN G d held false
    rcases List.mem_cons.mp hd with rfl | hd
    · exact .inr ⟨rfl, rfl⟩
    rcases List.mem_cons.mp hd with rfl | hd
    · exact .inr ⟨rfl, rfl⟩
    rcases List.mem_cons.mp hd with rfl | hd
    · exact .inl ⟨held + 1, _, _, rfl, (decide_eq_false (by omega)).symm⟩
    rcases List.mem_cons.mp hd with rfl | hd
    · exact .inr ⟨rfl, rfl⟩
    rcases List.mem_cons.mp hd with rfl | hd
    · exact .inr ⟨rfl, rfl⟩
    · cases hd
end K13
set_option Elab.async false
set_option linter.all false
set_option maxRecDepth 100000
set_option maxHeartbeats 4000000
set_option pp.maxSteps 300
namespace K13
open PySem PySem.Spec PyProof.Rows L2 DL
local macro_rules | `(tactic| walk_at "d") => `(tactic| (first
  | with_reducible refine addN ?_ | with_reducible refine subN (by omega) ?_ | with_reducible refine mulN (by first | exact .inl (by decide) | exact .inr (by decide) | omega) ?_ | with_reducible refine andN ?_ | with_reducible refine orN ?_ | with_reducible refine xorN ?_
  | with_reducible refine modN (by first | decide | omega) ?_ | with_reducible refine fdivN (by first | decide | omega) (by first | decide | omega) ?_ | with_reducible refine shrN ?_ | with_reducible refine shl1 (by omega) ?_
  | with_reducible refine ltN ?_ | with_reducible refine leN ?_ | with_reducible refine gtN ?_ | with_reducible refine geN ?_ | with_reducible refine eqN ?_ | with_reducible refine neN ?_ | with_reducible refine absN ?_ | with_reducible refine minN ?_ | with_reducible refine intB ?_
  | with_reducible refine ixL (by with_unfolding_all rfl) ?_ | with_reducible refine ixT (by with_unfolding_all rfl) ?_
  | with_reducible refine rngN (by first | omega | decide) ?_
  | with_reducible refine lenTm ?_ | with_reducible refine lenLm ?_ | with_reducible refine lenT ?_ | with_reducible refine lenL ?_ | with_reducible refine tupL ?_ | with_reducible refine tupT ?_ | with_reducible refine lstL ?_ | with_reducible refine lstT ?_ | with_reducible refine itmL ?_ | with_reducible refine itmT ?_ | with_reducible refine enmL ?_ | with_reducible refine enmT ?_ | with_reducible refine eqS ?_ | with_reducible refine neS ?_ | with_reducible refine revL ?_
  | ((with_reducible refine idDb ?_); first | refine Db.one ?_ | refine Db.cons ?_ | refine Db.nil ?_)
  | ((with_reducible refine idDs ?_); first | refine Ds.ret ?_ | refine Ds.if_ ?_ | refine Ds.set' 0 ?_ | refine Ds.set' 1 ?_ | refine Ds.set' 2 ?_ | refine Ds.set' 3 ?_ | refine Ds.set' 4 ?_ | refine Ds.set' 5 ?_ | refine Ds.set' 6 ?_ | refine Ds.set' 7 ?_ | refine Ds.set' 8 ?_ | refine Ds.set' 9 ?_ | refine Ds.set' 10 ?_ | refine Ds.set' 11 ?_ | refine Ds.set' 12 ?_ | refine Ds.set' 13 ?_)
  | ((with_reducible refine idDe ?_); first
    | refine De.name 0 rfl ?_ | refine De.name 1 rfl ?_ | refine De.name 2 rfl ?_ | refine De.name 3 rfl ?_ | refine De.name 4 rfl ?_ | refine De.name 5 rfl ?_ | refine De.name 6 rfl ?_ | refine De.name 7 rfl ?_ | refine De.name 8 rfl ?_ | refine De.name 9 rfl ?_ | refine De.name 10 rfl ?_ | refine De.name 11 rfl ?_ | refine De.name 12 rfl ?_ | refine De.name 13 rfl ?_
    | refine De.nat (n := 0) ?_ | refine De.nat (n := 1) ?_ | refine De.nat (n := 2) ?_ | refine De.nat ?_ | refine De.str ?_ | refine De.bl ?_ | refine De.non ?_
    | refine De.add ?_ | refine De.sub ?_ | refine De.mul ?_ | refine De.shl ?_ | refine De.shr ?_ | refine De.band ?_ | refine De.bor ?_ | refine De.bxor ?_ | refine De.mod ?_ | refine De.fdiv ?_ | refine De.pow ?_
    | refine De.eq ?_ | refine De.ne ?_ | refine De.lt ?_ | refine De.le ?_ | refine De.gt ?_ | refine De.ge ?_
    | refine De.chLL ?_ | refine De.chLl ?_
    | refine De.and1 ?_ | refine De.and ?_ | refine De.or ?_ | refine De.not ?_ | refine De.ite ?_
    | refine De.tup ?_ | refine De.lst ?_
    | refine De.rev ?_ | refine De.slLo ?_ | refine De.slHi ?_ | refine De.ix ?_ | refine De.fld ?_
    | refine De.isi (fun _ => Txt.isinstance) ?_ | refine De.len (fun _ => Txt.len) ?_ | refine De.toTup (fun _ => Txt.tuple) ?_ | refine De.toLst (fun _ => Txt.list) ?_ | refine De.toInt (fun _ => Txt.int) ?_ | refine De.allB (fun _ => Txt.all) ?_ | refine De.sum (fun _ => Txt.sum) ?_
    | refine De.min2 (fun _ => Txt.min) ?_ | refine De.abs (fun _ => Txt.abs) ?_ | refine De.sortI (fun _ => Txt.sorted) ?_
    | refine bcls (fun _ => Txt.int) boot_int ?_ | refine bcls (fun _ => Txt.bool) boot_bool ?_ | refine bcls (fun _ => Txt.tuple) boot_tuple ?_ | refine bcls (fun _ => Txt.str) boot_str ?_
    | refine ocls (fun _ => Txt.gS) ?_
    | refine gnat (fun _ => Txt.MOST_LEAVES) ?_ | refine gnat (fun _ => Txt.MOST_GATES) ?_ | refine gnat (fun _ => Txt.MOST_HELD) ?_ | refine gnat (fun _ => Txt.MOST_FREE) ?_ | refine gnat (fun _ => Txt.MOST_LAID) ?_ | refine gnat (fun _ => Txt.MOST_KIN) ?_)
  | ((with_reducible refine idDt ?_); first
    | refine Dt.eq ?_ | refine Dt.ne ?_ | refine Dt.lt ?_ | refine Dt.le ?_ | refine Dt.gt ?_ | refine Dt.ge ?_
    | refine Dt.not ?_ | refine Dt.or2 ?_ | refine Dt.and2 ?_ | refine Dt.or3 ?_ | refine Dt.truthB ?_ | refine Dt.val ?_)
  | ((with_reducible refine idDa ?_); first | refine Da.nil ?_ | refine Da.cons ?_)
  | ((with_reducible refine idDi ?_); first | refine Di.range1 (fun _ => Txt.range) ?_ | refine Di.range2 (fun _ => Txt.range) ?_ | refine Di.enum (fun _ => Txt.enumerate) ?_)
  | refine fun _ => ⟨Txt.cS.cl, Txt.nS _ (by decide), _, rfl, ?_⟩ | refine fun _ => ⟨Txt.cM.cl, Txt.nM _ (by decide), _, rfl, ?_⟩
  | refine fun _ => isi_int rfl ?_ | refine fun _ => isi_bool rfl ?_ | refine fun _ => isi_tuple rfl ?_ | refine fun _ => isi_str rfl ?_))
variable {G : Glo} [Txt G]
/-! ### law: the turns -/
variable [TxtX G]
open LamX in
/-- what a turn finds and leaves -/
structure LI (P : Addr) (q : Str) (a c0 : Addr) (σ : L2.St) (H : Hp) : Prop where
  len : σ.length = 14
  hand : σ[1]? = some (some (.ref a))
  at_ : ∃ (cells : List Int) (i left mix n : Int), H a = some (.lst [.ref c0, .int i, .int left, .int mix, .int n]) ∧ H c0 = some (.lst (cells.map V.int)) ∧ HandB cells i left mix n
  tab : LamX.TabS H P q
theorem LI.ne {P : Addr} {q : Str} {a c0 : Addr} {σ : L2.St} {H : Hp} (h : LI P q a c0 σ H) : a ≠ c0 := by
  obtain ⟨cells, i, l, m, n, e1, e2, _⟩ := h.at_
  intro z
  rw [z, e2] at e1
  have e3 : cells.map V.int = [.ref c0, .int i, .int l, .int m, .int n] := by
    injection e1 with e1
    injection e1
  cases cells with
  | nil => cases e3
  | cons x xs => cases e3
def S1 (c0 : Addr) (H : Hp) : Hp := fun b => if b = c0 then H c0 else none
theorem S1_same (c0 : Addr) (H : Hp) : Same (S1 c0 H) H := fun b o e => by
  unfold S1 at e
  split at e
  · rename_i z
    rw [z]
    exact e
  · cases e
theorem LI.hand_ok {P : Addr} {q : Str} {a c0 : Addr} {σ : L2.St} {H : Hp} (h : LI P q a c0 σ H) : HandOk (some a) c0 (S1 c0 H) H := fun b z => by
  cases z
  obtain ⟨cells, i, l, m, n, e1, e2, b⟩ := h.at_
  exact ⟨cells, i, l, m, n, e1, by unfold S1; rw [if_pos rfl]; exact e2, b⟩
abbrev rhoL (x : Sl) : Rho := [.no, .sh .hand, x, .no, .no, .no, .no, .no, .no, .no, .no, .no, .no, .no]
abbrev E1 (a c0 : Addr) (H : Hp) : Ent := ⟨some a, c0, S1 c0 H, H⟩
theorem LI.env {K : PySem.W.Frag} {P : Addr} {q : Str} {a c0 : Addr} {σ : L2.St} {H : Hp} (h : LI P q a c0 σ H) : EnvOk K (E1 a c0 H) (S1 c0 H) H (rhoL .no) σ := by
  have na := h.ne
  refine ⟨⟨S1_same c0 H, Same.refl _, h.hand_ok, fun b z => ?_, But.refl _ _, fun b o e n => ?_⟩, h.len, fun i d e => ?_, fun i o e => ?_, fun i j o o' b e => ?_⟩
  · cases z
    show (if a = c0 then H c0 else none) = none
    rw [if_neg na]
  · have n : S1 c0 H b = none := n
    rw [n] at e
    cases e
  · match i, e with
    | 0, e => cases e
    | 1, e =>
      cases e
      exact ⟨_, h.hand, a, rfl, rfl⟩
    | 2, e => cases e
    | 3, e => cases e
    | 4, e => cases e
    | 5, e => cases e
    | 6, e => cases e
    | 7, e => cases e
    | 8, e => cases e
    | 9, e => cases e
    | 10, e => cases e
    | 11, e => cases e
    | 12, e => cases e
    | 13, e => cases e
    | i + 14, e => cases e
  · match i, e with
    | 0, e => cases e
    | 1, e => cases e
    | 2, e => cases e
    | 3, e => cases e
    | 4, e => cases e
    | 5, e => cases e
    | 6, e => cases e
    | 7, e => cases e
    | 8, e => cases e
    | 9, e => cases e
    | 10, e => cases e
    | 11, e => cases e
    | 12, e => cases e
    | 13, e => cases e
    | i + 14, e => cases e
  · match i, e with
    | 0, e => cases e
    | 1, e => cases e
    | 2, e => cases e
    | 3, e => cases e
    | 4, e => cases e
    | 5, e => cases e
    | 6, e => cases e
    | 7, e => cases e
    | 8, e => cases e
    | 9, e => cases e
    | 10, e => cases e
    | 11, e => cases e
    | 12, e => cases e
    | 13, e => cases e
    | i + 14, e => cases e
theorem codeO_lst {c : Addr} {q : Str} {xs : List V} : LamX.CodeO c q ≠ .lst xs := fun z => by
  unfold LamX.CodeO at z
  cases z
/-- tables stay where all but the hand stays -/
theorem tab_but {P a : Addr} {q : Str} {H H' : Hp} {xs : List V} (t : LamX.TabS H P q) (ha : H a = some (.lst xs)) (b : But (some a) H H') : LamX.TabS H' P q := by
  obtain ⟨ps, h1, h2, h3⟩ := t
  have nP : (some a : Option Addr) ≠ some P := fun z => by
    injection z with z
    rw [← z, ha] at h1
    cases h1
  refine ⟨ps, b P _ h1 nP, h2, fun pos cv hc => ?_⟩
  obtain ⟨c, e1, e2⟩ := h3 pos cv hc
  refine ⟨c, e1, b c _ e2 fun z => ?_⟩
  injection z with z
  rw [← z, ha] at e2
  exact codeO_lst (Option.some.inj e2).symm
/-- behind what goes on in a world of the hand's -/
theorem LI.go {K : PySem.W.Frag} {P : Addr} {q : Str} {a c0 : Addr} {σ' : L2.St} {H H' S0 S' : Hp} (ha : ∃ xs, H a = some (.lst xs)) (ht : LamX.TabS H P q) (w : Wld K ⟨some a, c0, S0, H⟩ S' H') (hl : σ'.length = 14) (hh : σ'[1]? = some (some (.ref a))) : LI P q a c0 σ' H' := by
  obtain ⟨xs, ha⟩ := ha
  obtain ⟨cells, i, l, m, n, e1, e2, b⟩ := w.hand a rfl
  exact ⟨hl, hh, ⟨cells, i, l, m, n, e1, w.sh _ _ e2, b⟩, tab_but ht ha w.fr⟩
theorem sqT_but {K : PySem.W.Frag} {a t : Addr} {H H' : Hp} {xs ys : List V} (s : SqT K H t ys) (ha : H a = some (.lst xs)) (b : But (some a) H H') : SqT K H' t ys := by
  have n : ∀ {o : HO}, H t = some o → (∀ zs, o ≠ .lst zs) → H' t = some o := fun {o} e n => b t o e fun z => by
    injection z with z
    rw [← z, ha] at e
    exact n xs (Option.some.inj e).symm
  rcases s with (s | ⟨o, s⟩) | s
  · exact .inl (.inl (n s fun zs z => by cases z))
  · exact .inl (.inr ⟨o, n s fun zs z => by cases z⟩)
  · exact .inr s
theorem sqT_ext {K : PySem.W.Frag} {t : Addr} {H H' : Hp} {ys : List V} (s : SqT K H t ys) (e : LamX.ExtN H H') : SqT K H' t ys := by
  rcases s with (s | ⟨o, s⟩) | s
  · exact .inl (.inl (e _ _ s fun ps z => by cases z))
  · exact .inl (.inr ⟨o, e _ _ s fun ps z => by cases z⟩)
  · exact .inr s
end K13
set_option Elab.async false
set_option linter.all false
set_option maxRecDepth 100000
set_option maxHeartbeats 4000000
set_option pp.maxSteps 300
namespace K13
open PySem PySem.Spec PyProof.Rows L2 DL
local macro_rules | `(tactic| walk_at "d") => `(tactic| (first
  | with_reducible refine addN ?_ | with_reducible refine subN (by omega) ?_ | with_reducible refine mulN (by first | exact .inl (by decide) | exact .inr (by decide) | omega) ?_ | with_reducible refine andN ?_ | with_reducible refine orN ?_ | with_reducible refine xorN ?_
  | with_reducible refine modN (by first | decide | omega) ?_ | with_reducible refine fdivN (by first | decide | omega) (by first | decide | omega) ?_ | with_reducible refine shrN ?_ | with_reducible refine shl1 (by omega) ?_
  | with_reducible refine ltN ?_ | with_reducible refine leN ?_ | with_reducible refine gtN ?_ | with_reducible refine geN ?_ | with_reducible refine eqN ?_ | with_reducible refine neN ?_ | with_reducible refine absN ?_ | with_reducible refine minN ?_ | with_reducible refine intB ?_
  | with_reducible refine ixL (by with_unfolding_all rfl) ?_ | with_reducible refine ixT (by with_unfolding_all rfl) ?_
  | with_reducible refine rngN (by first | omega | decide) ?_
  | with_reducible refine lenTm ?_ | with_reducible refine lenLm ?_ | with_reducible refine lenT ?_ | with_reducible refine lenL ?_ | with_reducible refine tupL ?_ | with_reducible refine tupT ?_ | with_reducible refine lstL ?_ | with_reducible refine lstT ?_ | with_reducible refine itmL ?_ | with_reducible refine itmT ?_ | with_reducible refine enmL ?_ | with_reducible refine enmT ?_ | with_reducible refine eqS ?_ | with_reducible refine neS ?_ | with_reducible refine revL ?_
  | ((with_reducible refine idDb ?_); first | refine Db.one ?_ | refine Db.cons ?_ | refine Db.nil ?_)
  | ((with_reducible refine idDs ?_); first | refine Ds.ret ?_ | refine Ds.if_ ?_ | refine Ds.set' 0 ?_ | refine Ds.set' 1 ?_ | refine Ds.set' 2 ?_ | refine Ds.set' 3 ?_ | refine Ds.set' 4 ?_ | refine Ds.set' 5 ?_ | refine Ds.set' 6 ?_ | refine Ds.set' 7 ?_ | refine Ds.set' 8 ?_ | refine Ds.set' 9 ?_ | refine Ds.set' 10 ?_ | refine Ds.set' 11 ?_ | refine Ds.set' 12 ?_ | refine Ds.set' 13 ?_)
  | ((with_reducible refine idDe ?_); first
    | refine De.name 0 rfl ?_ | refine De.name 1 rfl ?_ | refine De.name 2 rfl ?_ | refine De.name 3 rfl ?_ | refine De.name 4 rfl ?_ | refine De.name 5 rfl ?_ | refine De.name 6 rfl ?_ | refine De.name 7 rfl ?_ | refine De.name 8 rfl ?_ | refine De.name 9 rfl ?_ | refine De.name 10 rfl ?_ | refine De.name 11 rfl ?_ | refine De.name 12 rfl ?_ | refine De.name 13 rfl ?_
    | refine De.nat (n := 0) ?_ | refine De.nat (n := 1) ?_ | refine De.nat (n := 2) ?_ | refine De.nat ?_ | refine De.str ?_ | refine De.bl ?_ | refine De.non ?_
    | refine De.add ?_ | refine De.sub ?_ | refine De.mul ?_ | refine De.shl ?_ | refine De.shr ?_ | refine De.band ?_ | refine De.bor ?_ | refine De.bxor ?_ | refine De.mod ?_ | refine De.fdiv ?_ | refine De.pow ?_
    | refine De.eq ?_ | refine De.ne ?_ | refine De.lt ?_ | refine De.le ?_ | refine De.gt ?_ | refine De.ge ?_
    | refine De.chLL ?_ | refine De.chLl ?_
    | refine De.and1 ?_ | refine De.and ?_ | refine De.or ?_ | refine De.not ?_ | refine De.ite ?_
    | refine De.tup ?_ | refine De.lst ?_
    | refine De.rev ?_ | refine De.slLo ?_ | refine De.slHi ?_ | refine De.ix ?_ | refine De.fld ?_
    | refine De.isi (fun _ => Txt.isinstance) ?_ | refine De.len (fun _ => Txt.len) ?_ | refine De.toTup (fun _ => Txt.tuple) ?_ | refine De.toLst (fun _ => Txt.list) ?_ | refine De.toInt (fun _ => Txt.int) ?_ | refine De.allB (fun _ => Txt.all) ?_ | refine De.sum (fun _ => Txt.sum) ?_
    | refine De.min2 (fun _ => Txt.min) ?_ | refine De.abs (fun _ => Txt.abs) ?_ | refine De.sortI (fun _ => Txt.sorted) ?_
    | refine bcls (fun _ => Txt.int) boot_int ?_ | refine bcls (fun _ => Txt.bool) boot_bool ?_ | refine bcls (fun _ => Txt.tuple) boot_tuple ?_ | refine bcls (fun _ => Txt.str) boot_str ?_
    | refine ocls (fun _ => Txt.gS) ?_
    | refine gnat (fun _ => Txt.MOST_LEAVES) ?_ | refine gnat (fun _ => Txt.MOST_GATES) ?_ | refine gnat (fun _ => Txt.MOST_HELD) ?_ | refine gnat (fun _ => Txt.MOST_FREE) ?_ | refine gnat (fun _ => Txt.MOST_LAID) ?_ | refine gnat (fun _ => Txt.MOST_KIN) ?_)
  | ((with_reducible refine idDt ?_); first
    | refine Dt.eq ?_ | refine Dt.ne ?_ | refine Dt.lt ?_ | refine Dt.le ?_ | refine Dt.gt ?_ | refine Dt.ge ?_
    | refine Dt.not ?_ | refine Dt.or2 ?_ | refine Dt.and2 ?_ | refine Dt.or3 ?_ | refine Dt.truthB ?_ | refine Dt.val ?_)
  | ((with_reducible refine idDa ?_); first | refine Da.nil ?_ | refine Da.cons ?_)
  | ((with_reducible refine idDi ?_); first | refine Di.range1 (fun _ => Txt.range) ?_ | refine Di.range2 (fun _ => Txt.range) ?_ | refine Di.enum (fun _ => Txt.enumerate) ?_)
  | refine fun _ => ⟨Txt.cS.cl, Txt.nS _ (by decide), _, rfl, ?_⟩ | refine fun _ => ⟨Txt.cM.cl, Txt.nM _ (by decide), _, rfl, ?_⟩
  | refine fun _ => isi_int rfl ?_ | refine fun _ => isi_bool rfl ?_ | refine fun _ => isi_tuple rfl ?_ | refine fun _ => isi_str rfl ?_))
variable {G : Glo} [Txt G]
/-! ### law: the last test of a turn -/
variable [TxtX G]
structure LawW (G : Glo) [Txt G] [TxtX G] (c P : Addr) : Prop where
  kinX : CalleeX G "kin_stands" (Txt.CB G) (spBanX G) 5
  word : ∃ g fdg, Fun G.K "_law_word" "_law_word" sWord g fdg ∧ G.mg "_law_word" = some (.ref g)
  mV : G.mg "ValueError" = none
  exm : PySem.W.exmOne G.K (.ref (Txt.CB G)) (.ref (Txt.CB G)) = some true
  exc : ExcC G.K (Txt.CB G)
  kit : PySem.W.kitOne G.K (.ref (Txt.CB G)) (.type "ValueError") = some true
  tab : LamX.TabB G.base G.mg c P
abbrev lawX (z : Dyn 8 "law" (defScope sLaw)) : Cx := (fam G NLaw "law" (defScope sLaw) 8).cx z
abbrev lawLast : Stmt := lawB.getD 9 (.Pass ⟨0, 0, 0, 0⟩)
def ifTest : Stmt → Expr
  | .If c _ _ _ => c
  | _ => .Constant .none 0 ⟨0, 0, 0, 0⟩
def cmpLeft : Expr → Expr
  | .Compare a _ _ _ => a
  | e => e
def lamOf : Expr → Expr
  | .Call _ (e :: _) _ _ => e
  | e => e
def lamScope : Expr → Scope
  | .Lambda _ _ sc _ => sc
  | _ => defScope sLaw
abbrev theCall : Expr := cmpLeft (ifTest lawLast)
abbrev theScope : Scope := lamScope (lamOf theCall)
/-- the lambda's body, told what its call may let out -/
def tKin (G : Glo) [Txt G] : XK → TE := fun E => tCall (spX G.K (Txt.CB G) (spBanX G)) [] E (tCons (tVar 6) (tCons (tVar 11) tNil))
theorem pe_theCall {c P : Addr} (W : LawW G c P) (z : Dyn 8 "law" (defScope sLaw)) (hz : z.cdv = .ref c) :
    PE (lawX (G := G) z) theCall (LamX.tLam [(P, (lawX (G := G) z).env.qual ++ "<lambda>")] (TTban (Txt.CB G)) (tKin G)) := by
  obtain ⟨g, fdg, Fg, mg⟩ := W.word
  obtain ⟨f, fd, ps, Fk, mk, kk, bk⟩ := W.kinX.ok
  have kg := Fg.kp
  have bg := Fg.binds (ps := ["call"]) fun _ _ _ _ _ _ us hl => match us, hl with | [_], _ => rfl
  obtain ⟨oc, od, kV, doc, pm, an, cdv, ct, osl, rfl, lk, hcd⟩ := Fg.ex
  refine LamX.pe_lamcall (X := lawX (G := G) z) (c := c) (P := P) (k := 5) (Ng := ["call", "error"]) (a := "call") (t := tKin G) rfl mg kg lk hcd bg scWord rfl (.inl rfl)
    (word_gives Txt.gB Txt.isinstance W.mV W.exm W.exc W.kit) W.tab hz (List.mem_cons_self) (fun p hp _ => by cases List.mem_singleton.mp hp; rfl) (((fam G NLaw "law" (defScope sLaw) 8).room z).mono (by exact Nat.le_of_ble_eq_true rfl)) (LamX.lamS_by (by show LamX.lamSB (defScope sLaw) theScope = true; decide +kernel)) rfl (fun _ _ _ _ _ => rfl) (fun A outer s H E f' c' hr => ?_)
  refine pe_call Fk hr rfl mk kk bk .nil (passes_call (takes_of rfl rfl rfl rfl) fun _ _ _ _ q => q) (pa_cons (pe_var (i := 6) rfl (.inr (.inr rfl))) (pa_cons (pe_var (i := 11) rfl (.inr (.inr rfl))) pa_nil))
theorem ps_theLast {c P : Addr} (W : LawW G c P) (z : Dyn 8 "law" (defScope sLaw)) (hz : z.cdv = .ref c) :
    PS (lawX (G := G) z) lawLast (fun D σ H => LamX.tLam [(P, (lawX (G := G) z).env.qual ++ "<lambda>")] (TTban (Txt.CB G)) (tKin G) σ H fun v H1 => v = .str "ban" ∧ D.nx σ H1) := by
  have hc := pe_theCall W z hz
  refine PS.imp (ps_if (pt_cmpR op_ne hc pe_str (nomark _)) pss_never pss_nil) fun D σ H h => ?_
  obtain ⟨hT, h2⟩ := h
  refine ⟨hT, fun H1 e1 t1 E Q' himp => h2 H1 e1 t1 E Q' fun H' q => himp H' ?_⟩
  refine ⟨rfl, false, ?_, q.2⟩
  rw [decide_eq_true rfl]
  rfl
/-! ### law: the loop -/
abbrev lawFor : Stmt := (defBody sLaw).getD 1 (.Pass ⟨0, 0, 0, 0⟩)
def forIter : Stmt → Expr
  | .For _ e _ _ _ => e
  | _ => .Constant .none 0 ⟨0, 0, 0, 0⟩
theorem law_iter (c : LawC G) : De (fam G NLaw "law" (defScope sLaw) 8) (rhoL .no) (forIter lawFor) fun d => ∃ h1 h2 : Nat, 6 ≤ h1 ∧ h1 ≤ 8 ∧ 1 ≤ h2 ∧ h2 ≤ 6 ∧ d = .tup [natD h1, natD h2] := by
  show De _ _ (.Tuple _ _ _) _
  repeat walk_at "d"
  refine De.call c.draw ?_
  repeat walk_at "d"
  refine ⟨3, rfl, by omega, by omega, fun a ha => ?_⟩
  repeat walk_at "d"
  refine De.call c.draw ?_
  repeat walk_at "d"
  refine ⟨6, rfl, by omega, by omega, fun b hb => ?_⟩
  repeat walk_at "d"
  exact ⟨by rw [sizeLine_eq]; exact Nat.le_of_ble_eq_true rfl, 6 + a, 1 + b, by omega, by omega, by omega, by omega, rfl⟩
theorem ps_lawFor (cc : LawC G) {c P a c0 : Addr} (W : LawW G c P) (z : Dyn 8 "law" (defScope sLaw)) (hz : z.cdv = .ref c) :
    PS (lawX (G := G) z) lawFor (fun D σ H => LI P ((lawX (G := G) z).env.qual ++ "<lambda>") a c0 σ H ∧ ∀ σ' H', D.nx σ' H') := by
  generalize hq : (lawX (G := G) z).env.qual ++ "<lambda>" = q
  have hlast : PS (lawX (G := G) z) lawLast _ := ps_theLast W z hz
  rw [hq] at hlast
  show PS (lawX (G := G) z) (.For (.Name "held" _) (forIter lawFor) (lawB.take 9 ++ [lawLast]) [] _) _
  refine PS.imp (ps_for PassesOwn.never rfl (pi_seq pe_all) ((Tgt.name (F := fam G NLaw "law" (defScope sLaw) 8) 2 (fun _ => scLaw.nd)).ok z) (pss_app pss_all (pss_one hlast)) (by intro _; rfl)) fun D σ H h => ?_
  obtain ⟨li, hD⟩ := h
  refine (law_iter cc).all (i := z) li.env fun d v S1' H1 qd g1 rd => ?_
  obtain ⟨h1, h2, b1, b2, b3, b4, rfl⟩ := qd
  obtain ⟨t, xs, rfl, eT, v1, r1, rfl, rv1, v2, r2, rfl, rv2, rn⟩ := rd
  cases (show r2 = [] from rn)
  cases (show v1 = _ from rv1)
  cases (show v2 = _ from rv2)
  have haH : ∃ xs, H a = some (.lst xs) := by
    obtain ⟨_, _, _, _, _, e, _⟩ := li.at_
    exact ⟨_, e⟩
  have li1 : LI P q a c0 σ H1 := LI.go haH li.tab g1.w li.len li.hand
  have eT1 := Same.sqT g1.w.sh eT
  refine ⟨t, rfl, .inr ⟨⟨_, eT1⟩, ?_⟩⟩
  refine ⟨fun i m σ' H' => m = 2 - i ∧ i ≤ 2 ∧ LI P q a c0 σ' H' ∧ SqT G.K H' t [.int (h1 : Int), .int (h2 : Int)], ⟨2, rfl, by omega, li1, eT1⟩, ?_⟩
  rintro i m σ' H' ⟨rfl, hi, li', eT'⟩
  by_cases hlt : i < 2
  · refine .inr ⟨?_, fun σ2 H2 => LI P q a c0 σ2 H2 ∧ SqT G.K H2 t [.int (h1 : Int), .int (h2 : Int)], fun σ2 H2 hh => ⟨2 - (i + 1), by omega, rfl, by omega, hh⟩, fun x H3 hx => ?_⟩
    · match i, hlt with
      | 0, _ => exact ⟨_, _, eT', rfl⟩
      | 1, _ => exact ⟨_, _, eT', rfl⟩
    obtain ⟨rfl, hx⟩ := hx
    have hx := hx _ eT'
    obtain ⟨hh, hh1, hh8, rfl⟩ : ∃ hh : Nat, 1 ≤ hh ∧ hh ≤ 8 ∧ x = .int (hh : Int) := by
      match i, hlt, hx with
      | 0, _, hx => exact ⟨h1, by omega, b2, (Option.some.inj hx).symm⟩
      | 1, _, hx => exact ⟨h2, b3, by omega, (Option.some.inj hx).symm⟩
    have lenσ := li'.len
    have genv := EnvOk.set 2 (d := natD hh) (v := .int (hh : Int)) (li'.env (K := G.K)) rfl
    refine Db.all (F := fam G NLaw "law" (defScope sLaw) 8) (i := z) (law_pre cc hh1 hh8) genv ⟨fun ρ' S' H4 σ4 pre s4 g4 => ?_, fun _ _ _ _ q => q.elim, fun _ _ _ _ _ _ q => q.elim, fun _ _ _ _ q => q.elim, fun _ _ _ _ q => q.elim⟩
    obtain ⟨M, d, e14, e1, e6, e11, hs⟩ := pre
    obtain ⟨w1, p1, a4, q1, rfl⟩ := g4.sh 1 _ e1
    cases q1
    obtain ⟨vm, pm, rm⟩ := g4.sh 6 _ e6
    obtain ⟨vd, pd, rdd⟩ := g4.sh 11 _ e11
    have haH' : ∃ xs, H3 a = some (.lst xs) := by
      obtain ⟨_, _, _, _, _, e, _⟩ := li'.at_
      exact ⟨_, e⟩
    have len4 : σ4.length = 14 := g4.len.trans e14
    have li4 : LI P q a c0 σ4 H4 := LI.go haH' li'.tab g4.w len4 p1
    have eT4 : SqT G.K H4 t [.int (h1 : Int), .int (h2 : Int)] := by
      obtain ⟨xs, e⟩ := haH'
      exact sqT_but eT' e g4.w.fr
    refine ⟨fun p hp => by cases List.mem_singleton.mp hp; exact li4.tab, fun H5 ex tb5 E Q' himp => ?_⟩
    obtain ⟨cells, ii, ll, mm, nn, f1, f2, fb⟩ := g4.w.hand a rfl
    have f1' : H5 a = some (.lst [.ref c0, .int ii, .int ll, .int mm, .int nn]) := ex _ _ f1 fun ps z => by cases z
    have w5 : Wld G.K ⟨some a, c0, noTb S', H5⟩ (noTb S') H5 := by
      refine ⟨fun b o e => ?_, Same.refl _, fun b z => ?_, fun b z => ?_, But.refl _ _, fun b o e n => ?_⟩
      · obtain ⟨e2, n⟩ := noTb_of e
        exact ex _ _ (g4.w.sh _ _ e2) n
      · cases z
        exact ⟨cells, ii, ll, mm, nn, f1', noTb_keep S' _ _ f2 (fun ps z => by cases z), fb⟩
      · cases z
        have hn := g4.w.nh a rfl
        cases q9 : noTb S' a with
        | none => rfl
        | some o =>
          obtain ⟨e2, _⟩ := noTb_of q9
          rw [hn] at e2
          cases e2
      · have n : noTb S' b = none := n
        rw [n] at e
        cases e
    refine ⟨vm, pm, vd, pd, ⟨some a, c0, noTb S', H5⟩, noTb S', [M.d G, d], w5, ?_, ⟨M, d, rfl, hs⟩, fun S6 H6 g6 => himp H6 ⟨rfl, ?_, ?_⟩⟩
    · exact Reps.cons (Rep.keepN (noTb_keep S') rm) (Reps.cons (Rep.keepN (noTb_keep S') rdd) Reps.nil)
    · exact LI.go ⟨_, f1'⟩ (tb5 _ List.mem_cons_self) g6.w len4 p1
    · exact sqT_but (sqT_ext eT4 ex) f1' g6.w.fr
  · have : i = 2 := by omega
    subst this
    exact .inl ⟨⟨_, eT', by simp⟩, hD σ' H'⟩
end K13
set_option Elab.async false
set_option linter.all false
set_option maxRecDepth 100000
set_option maxHeartbeats 4000000
set_option pp.maxSteps 300
namespace K13
open PySem PySem.Spec PyProof.Rows L2 DL
local macro_rules | `(tactic| walk_at "d") => `(tactic| (first
  | with_reducible refine addN ?_ | with_reducible refine subN (by omega) ?_ | with_reducible refine mulN (by first | exact .inl (by decide) | exact .inr (by decide) | omega) ?_ | with_reducible refine andN ?_ | with_reducible refine orN ?_ | with_reducible refine xorN ?_
  | with_reducible refine modN (by first | decide | omega) ?_ | with_reducible refine fdivN (by first | decide | omega) (by first | decide | omega) ?_ | with_reducible refine shrN ?_ | with_reducible refine shl1 (by omega) ?_
  | with_reducible refine ltN ?_ | with_reducible refine leN ?_ | with_reducible refine gtN ?_ | with_reducible refine geN ?_ | with_reducible refine eqN ?_ | with_reducible refine neN ?_ | with_reducible refine absN ?_ | with_reducible refine minN ?_ | with_reducible refine intB ?_
  | with_reducible refine ixL (by with_unfolding_all rfl) ?_ | with_reducible refine ixT (by with_unfolding_all rfl) ?_
  | with_reducible refine rngN (by first | omega | decide) ?_
  | with_reducible refine lenTm ?_ | with_reducible refine lenLm ?_ | with_reducible refine lenT ?_ | with_reducible refine lenL ?_ | with_reducible refine tupL ?_ | with_reducible refine tupT ?_ | with_reducible refine lstL ?_ | with_reducible refine lstT ?_ | with_reducible refine itmL ?_ | with_reducible refine itmT ?_ | with_reducible refine enmL ?_ | with_reducible refine enmT ?_ | with_reducible refine eqS ?_ | with_reducible refine neS ?_ | with_reducible refine revL ?_
  | ((with_reducible refine idDb ?_); first | refine Db.one ?_ | refine Db.cons ?_ | refine Db.nil ?_)
  | ((with_reducible refine idDs ?_); first | refine Ds.ret ?_ | refine Ds.if_ ?_ | refine Ds.set' 0 ?_ | refine Ds.set' 1 ?_ | refine Ds.set' 2 ?_ | refine Ds.set' 3 ?_ | refine Ds.set' 4 ?_ | refine Ds.set' 5 ?_ | refine Ds.set' 6 ?_ | refine Ds.set' 7 ?_ | refine Ds.set' 8 ?_ | refine Ds.set' 9 ?_ | refine Ds.set' 10 ?_ | refine Ds.set' 11 ?_ | refine Ds.set' 12 ?_ | refine Ds.set' 13 ?_)
  | ((with_reducible refine idDe ?_); first
    | refine De.name 0 rfl ?_ | refine De.name 1 rfl ?_ | refine De.name 2 rfl ?_ | refine De.name 3 rfl ?_ | refine De.name 4 rfl ?_ | refine De.name 5 rfl ?_ | refine De.name 6 rfl ?_ | refine De.name 7 rfl ?_ | refine De.name 8 rfl ?_ | refine De.name 9 rfl ?_ | refine De.name 10 rfl ?_ | refine De.name 11 rfl ?_ | refine De.name 12 rfl ?_ | refine De.name 13 rfl ?_
    | refine De.nat (n := 0) ?_ | refine De.nat (n := 1) ?_ | refine De.nat (n := 2) ?_ | refine De.nat ?_ | refine De.str ?_ | refine De.bl ?_ | refine De.non ?_
    | refine De.add ?_ | refine De.sub ?_ | refine De.mul ?_ | refine De.shl ?_ | refine De.shr ?_ | refine De.band ?_ | refine De.bor ?_ | refine De.bxor ?_ | refine De.mod ?_ | refine De.fdiv ?_ | refine De.pow ?_
    | refine De.eq ?_ | refine De.ne ?_ | refine De.lt ?_ | refine De.le ?_ | refine De.gt ?_ | refine De.ge ?_
    | refine De.chLL ?_ | refine De.chLl ?_
    | refine De.and1 ?_ | refine De.and ?_ | refine De.or ?_ | refine De.not ?_ | refine De.ite ?_
    | refine De.tup ?_ | refine De.lst ?_
    | refine De.rev ?_ | refine De.slLo ?_ | refine De.slHi ?_ | refine De.ix ?_ | refine De.fld ?_
    | refine De.isi (fun _ => Txt.isinstance) ?_ | refine De.len (fun _ => Txt.len) ?_ | refine De.toTup (fun _ => Txt.tuple) ?_ | refine De.toLst (fun _ => Txt.list) ?_ | refine De.toInt (fun _ => Txt.int) ?_ | refine De.allB (fun _ => Txt.all) ?_ | refine De.sum (fun _ => Txt.sum) ?_
    | refine De.min2 (fun _ => Txt.min) ?_ | refine De.abs (fun _ => Txt.abs) ?_ | refine De.sortI (fun _ => Txt.sorted) ?_
    | refine bcls (fun _ => Txt.int) boot_int ?_ | refine bcls (fun _ => Txt.bool) boot_bool ?_ | refine bcls (fun _ => Txt.tuple) boot_tuple ?_ | refine bcls (fun _ => Txt.str) boot_str ?_
    | refine ocls (fun _ => Txt.gS) ?_
    | refine gnat (fun _ => Txt.MOST_LEAVES) ?_ | refine gnat (fun _ => Txt.MOST_GATES) ?_ | refine gnat (fun _ => Txt.MOST_HELD) ?_ | refine gnat (fun _ => Txt.MOST_FREE) ?_ | refine gnat (fun _ => Txt.MOST_LAID) ?_ | refine gnat (fun _ => Txt.MOST_KIN) ?_)
  | ((with_reducible refine idDt ?_); first
    | refine Dt.eq ?_ | refine Dt.ne ?_ | refine Dt.lt ?_ | refine Dt.le ?_ | refine Dt.gt ?_ | refine Dt.ge ?_
    | refine Dt.not ?_ | refine Dt.or2 ?_ | refine Dt.and2 ?_ | refine Dt.or3 ?_ | refine Dt.truthB ?_ | refine Dt.val ?_)
  | ((with_reducible refine idDa ?_); first | refine Da.nil ?_ | refine Da.cons ?_)
  | ((with_reducible refine idDi ?_); first | refine Di.range1 (fun _ => Txt.range) ?_ | refine Di.range2 (fun _ => Txt.range) ?_ | refine Di.enum (fun _ => Txt.enumerate) ?_)
  | refine fun _ => ⟨Txt.cS.cl, Txt.nS _ (by decide), _, rfl, ?_⟩ | refine fun _ => ⟨Txt.cM.cl, Txt.nM _ (by decide), _, rfl, ?_⟩
  | refine fun _ => isi_int rfl ?_ | refine fun _ => isi_bool rfl ?_ | refine fun _ => isi_tuple rfl ?_ | refine fun _ => isi_str rfl ?_))
variable {G : Glo} [Txt G]
/-! ### law -/
variable [TxtX G]
def spLaw (K : PySem.W.Frag) (P : Addr) : Sp := fun vs H Q _ => ∃ (a : Addr) (ns : List Int), vs = [.ref a] ∧ SqL K H a (ns.map V.int) ∧ H P = some (.tbl #[]) ∧ ∀ H', Q (.bl true) H'
theorem ints_reps {K : PySem.W.Frag} {hd : Option Addr} {S : Hp} : ∀ {l : List Int} {ys : List V}, Reps K hd S (l.map D.int) ys → ys = l.map V.int
  | [], _, h => h
  | i :: l, _, h => by
    obtain ⟨x, t, rfl, h1, h2⟩ := h
    cases (show x = _ from h1)
    rw [ints_reps h2]
    rfl
theorem law_first (cH : Callee G "_law_hand" spHand 1) (ns : List Int) : Ds (fam G NLaw "law" (defScope sLaw) 8) (rho0 NLaw [.frl ns]) ((defBody sLaw).getD 0 (.Pass ⟨0, 0, 0, 0⟩)) { nx := fun ρ => ρ.length = 14 ∧ ρ[1]? = some (.sh (handD ns)) } := by
  show Ds _ [.sh (.frl ns), .no, .no, .no, .no, .no, .no, .no, .no, .no, .no, .no, .no, .no] (.Assign _ _ _) _
  repeat walk_at "d"
  refine Dl.sh ?_
  refine De.call cH ?_
  repeat walk_at "d"
  exact ⟨ns, rfl, rfl, rfl⟩
theorem ok_law (cc : LawC G) (cH : Callee G "_law_hand" spHand 1) {c P f : Addr} (W : LawW G c P) {oc kV doc pm ct : Value} {od an : Option Addr} {osl : Array (Option Value)}
    (lk : G.K.lookup f = some ⟨oc, od, .func (PySem.W.fnOf "law" "law" (defArgs sLaw) (defBody sLaw) (defScope sLaw) .none kV doc pm an (.ref c) ct), osl⟩) (hcd : PySem.W.codeIn G.K (.ref c) "law" = true) :
    FnOk G.P G.w G.K G.mg G.base CX0 9 f (PySem.W.fnOf "law" "law" (defArgs sLaw) (defBody sLaw) (defScope sLaw) .none kV doc pm an (.ref c) ct) ["script"] (spLaw G.K P) := by
  refine fn_of lk hcd scLaw (fun vs H Q E h => ?_) fun A outer s H vs Q E hr h => ?_
  · obtain ⟨a, ns, rfl, _⟩ := h
    rfl
  · obtain ⟨a, ns, rfl, hS, hP, hQ⟩ := h
    have hbody : ∃ t, PSs (lawX (G := G) ⟨f, .ref c, A, outer, s, H, E, hr⟩) (defBody sLaw) t ∧ t { nx := fun _ H' => Q .non H', rt := Q } (L2.start NLaw [.ref a]) H := by
      generalize hz : (⟨f, .ref c, A, outer, s, H, E, hr⟩ : Dyn 8 "law" (defScope sLaw)) = z
      have hzc : z.cdv = .ref c := by rw [← hz]
      have hfor : PS (lawX (G := G) z) lawFor (fun D σ H => ∃ a c0, LI P ((lawX (G := G) z).env.qual ++ "<lambda>") a c0 σ H ∧ ∀ σ' H', D.nx σ' H') :=
        ⟨fun pins s σ H D I ⟨a, c0, h⟩ => (ps_lawFor cc (a := a) (c0 := c0) W z hzc).run pins s σ H D I h⟩
      show ∃ t, PSs (lawX (G := G) z) [(defBody sLaw).getD 0 (.Pass ⟨0, 0, 0, 0⟩), lawFor, .Return (some (.Constant (.bool true) _ _)) _] t ∧ _
      refine ⟨_, pss_cons ps_all (pss_cons hfor (pss_one (ps_ret pe_bl))), ?_⟩
      have w0 : Wld G.K ⟨none, 0, fun b => if b = a then H a else none, H⟩ (fun b => if b = a then H a else none) H := by
        refine ⟨fun b o e => ?_, Same.refl _, (fun b z => nomatch z), (fun b z => nomatch z), But.refl _ _, fun b o e n => ?_⟩
        · have e : (if b = a then H a else none) = some o := e
          by_cases hb : b = a
          · rw [if_pos hb] at e
            rw [hb]
            exact e
          · rw [if_neg hb] at e
            cases e
        · have n : (if b = a then H a else none) = none := n
          rw [n] at e
          cases e
      have hSa : SqL G.K (fun b => if b = a then H a else none) a (ns.map V.int) := by
        rcases hS with (h | ⟨o, h⟩) | h
        · exact .inl (.inl ((if_pos rfl).trans h))
        · exact .inl (.inr ⟨o, (if_pos rfl).trans h⟩)
        · exact .inr h
      have r0 : Reps G.K none (fun b => if b = a then H a else none) [D.frl ns] [.ref a] := ⟨.ref a, [], rfl, ⟨a, rfl, hSa⟩, rfl⟩
      refine Ds.all (F := fam G NLaw "law" (defScope sLaw) 8) (i := z) (law_first cH ns) (env0 (N := NLaw) (ps := ["script"]) w0 r0 (Nat.le_of_ble_eq_true rfl)) ⟨fun ρ' S' H1 σ1 q s1 g1 => ?_, fun _ _ _ _ q => q.elim, fun _ _ _ _ _ _ q => q.elim, fun _ _ _ _ q => q.elim, fun _ _ _ _ q => q.elim⟩
      obtain ⟨q1, q2⟩ := q
      obtain ⟨v, p1, a', xs, rfl, e1, rr⟩ := g1.sh 1 _ q2
      obtain ⟨x0, xs1, rfl, ⟨c0, ys, rfl, e2, ry⟩, x1, xs2, rfl, r1, x2, xs3, rfl, r2, x3, xs4, rfl, r3, x4, xs5, rfl, r4, r5⟩ := rr
      cases (show x1 = _ from r1)
      cases (show x2 = _ from r2)
      cases (show x3 = _ from r3)
      cases (show x4 = _ from r4)
      cases (show xs5 = _ from r5)
      cases ints_reps ry
      have hcl : (cellsOf ns).length ≤ 60 := by unfold cellsOf; rw [List.length_map, List.length_take]; omega
      refine ⟨a', c0, ⟨g1.len.trans q1, p1, ⟨cellsOf ns, 0, 0, ((13122 + 31 * (cellsOf ns).length : Nat) : Int), 0, g1.w.sh _ _ e1, g1.w.sh _ _ e2, cells_ok ns, by decide, by decide, by decide, Int.natCast_nonneg _, by omega, by decide⟩, LamX.TabS.nil (g1.w.fr P _ hP fun z => by cases z)⟩, fun σ' H' => hQ H'⟩
    obtain ⟨t, ht, hq⟩ := hbody
    exact ⟨t, ht.nox, hq⟩
end K13
set_option Elab.async false
set_option linter.all false
set_option maxRecDepth 100000
set_option maxHeartbeats 4000000
set_option pp.maxSteps 300
namespace K13
open PySem PySem.Spec PyProof.Rows L2 DL
local macro_rules | `(tactic| walk_at "d") => `(tactic| (first
  | with_reducible refine addN ?_ | with_reducible refine subN (by omega) ?_ | with_reducible refine mulN (by first | exact .inl (by decide) | exact .inr (by decide) | omega) ?_ | with_reducible refine andN ?_ | with_reducible refine orN ?_ | with_reducible refine xorN ?_
  | with_reducible refine modN (by first | decide | omega) ?_ | with_reducible refine fdivN (by first | decide | omega) (by first | decide | omega) ?_ | with_reducible refine shrN ?_ | with_reducible refine shl1 (by omega) ?_
  | with_reducible refine ltN ?_ | with_reducible refine leN ?_ | with_reducible refine gtN ?_ | with_reducible refine geN ?_ | with_reducible refine eqN ?_ | with_reducible refine neN ?_ | with_reducible refine absN ?_ | with_reducible refine minN ?_ | with_reducible refine intB ?_
  | with_reducible refine ixL (by with_unfolding_all rfl) ?_ | with_reducible refine ixT (by with_unfolding_all rfl) ?_
  | with_reducible refine rngN (by first | omega | decide) ?_
  | with_reducible refine lenTm ?_ | with_reducible refine lenLm ?_ | with_reducible refine lenT ?_ | with_reducible refine lenL ?_ | with_reducible refine tupL ?_ | with_reducible refine tupT ?_ | with_reducible refine lstL ?_ | with_reducible refine lstT ?_ | with_reducible refine itmL ?_ | with_reducible refine itmT ?_ | with_reducible refine enmL ?_ | with_reducible refine enmT ?_ | with_reducible refine eqS ?_ | with_reducible refine neS ?_ | with_reducible refine revL ?_
  | ((with_reducible refine idDb ?_); first | refine Db.one ?_ | refine Db.cons ?_ | refine Db.nil ?_)
  | ((with_reducible refine idDs ?_); first | refine Ds.ret ?_ | refine Ds.if_ ?_ | refine Ds.set' 0 ?_ | refine Ds.set' 1 ?_ | refine Ds.set' 2 ?_ | refine Ds.set' 3 ?_ | refine Ds.set' 4 ?_ | refine Ds.set' 5 ?_ | refine Ds.set' 6 ?_ | refine Ds.set' 7 ?_ | refine Ds.set' 8 ?_ | refine Ds.set' 9 ?_ | refine Ds.set' 10 ?_ | refine Ds.set' 11 ?_ | refine Ds.set' 12 ?_ | refine Ds.set' 13 ?_)
  | ((with_reducible refine idDe ?_); first
    | refine De.name 0 rfl ?_ | refine De.name 1 rfl ?_ | refine De.name 2 rfl ?_ | refine De.name 3 rfl ?_ | refine De.name 4 rfl ?_ | refine De.name 5 rfl ?_ | refine De.name 6 rfl ?_ | refine De.name 7 rfl ?_ | refine De.name 8 rfl ?_ | refine De.name 9 rfl ?_ | refine De.name 10 rfl ?_ | refine De.name 11 rfl ?_ | refine De.name 12 rfl ?_ | refine De.name 13 rfl ?_
    | refine De.nat (n := 0) ?_ | refine De.nat (n := 1) ?_ | refine De.nat (n := 2) ?_ | refine De.nat ?_ | refine De.str ?_ | refine De.bl ?_ | refine De.non ?_
    | refine De.add ?_ | refine De.sub ?_ | refine De.mul ?_ | refine De.shl ?_ | refine De.shr ?_ | refine De.band ?_ | refine De.bor ?_ | refine De.bxor ?_ | refine De.mod ?_ | refine De.fdiv ?_ | refine De.pow ?_
    | refine De.eq ?_ | refine De.ne ?_ | refine De.lt ?_ | refine De.le ?_ | refine De.gt ?_ | refine De.ge ?_
    | refine De.chLL ?_ | refine De.chLl ?_
    | refine De.and1 ?_ | refine De.and ?_ | refine De.or ?_ | refine De.not ?_ | refine De.ite ?_
    | refine De.tup ?_ | refine De.lst ?_
    | refine De.rev ?_ | refine De.slLo ?_ | refine De.slHi ?_ | refine De.ix ?_ | refine De.fld ?_
    | refine De.isi (fun _ => Txt.isinstance) ?_ | refine De.len (fun _ => Txt.len) ?_ | refine De.toTup (fun _ => Txt.tuple) ?_ | refine De.toLst (fun _ => Txt.list) ?_ | refine De.toInt (fun _ => Txt.int) ?_ | refine De.allB (fun _ => Txt.all) ?_ | refine De.sum (fun _ => Txt.sum) ?_
    | refine De.min2 (fun _ => Txt.min) ?_ | refine De.abs (fun _ => Txt.abs) ?_ | refine De.sortI (fun _ => Txt.sorted) ?_
    | refine bcls (fun _ => Txt.int) boot_int ?_ | refine bcls (fun _ => Txt.bool) boot_bool ?_ | refine bcls (fun _ => Txt.tuple) boot_tuple ?_ | refine bcls (fun _ => Txt.str) boot_str ?_
    | refine ocls (fun _ => Txt.gS) ?_
    | refine gnat (fun _ => Txt.MOST_LEAVES) ?_ | refine gnat (fun _ => Txt.MOST_GATES) ?_ | refine gnat (fun _ => Txt.MOST_HELD) ?_ | refine gnat (fun _ => Txt.MOST_FREE) ?_ | refine gnat (fun _ => Txt.MOST_LAID) ?_ | refine gnat (fun _ => Txt.MOST_KIN) ?_)
  | ((with_reducible refine idDt ?_); first
    | refine Dt.eq ?_ | refine Dt.ne ?_ | refine Dt.lt ?_ | refine Dt.le ?_ | refine Dt.gt ?_ | refine Dt.ge ?_
    | refine Dt.not ?_ | refine Dt.or2 ?_ | refine Dt.and2 ?_ | refine Dt.or3 ?_ | refine Dt.truthB ?_ | refine Dt.val ?_)
  | ((with_reducible refine idDa ?_); first | refine Da.nil ?_ | refine Da.cons ?_)
  | ((with_reducible refine idDi ?_); first | refine Di.range1 (fun _ => Txt.range) ?_ | refine Di.range2 (fun _ => Txt.range) ?_ | refine Di.enum (fun _ => Txt.enumerate) ?_)
  | refine fun _ => ⟨Txt.cS.cl, Txt.nS _ (by decide), _, rfl, ?_⟩ | refine fun _ => ⟨Txt.cM.cl, Txt.nM _ (by decide), _, rfl, ?_⟩
  | refine fun _ => isi_int rfl ?_ | refine fun _ => isi_bool rfl ?_ | refine fun _ => isi_tuple rfl ?_ | refine fun _ => isi_str rfl ?_))
variable {G : Glo} [Txt G]
/-! ### what the top has left -/
/-- a def of the module -/
structure DefF (K : PySem.W.Frag) (mg : Str → Option Value) (x : Str) (st : Stmt) : Prop where
  ex : ∃ f fd, Fun K x x st f fd ∧ mg x = some (.ref f)
theorem def_mk {K : PySem.W.Frag} {h : Heap} {mg : Str → Option Value} {x : Str} {st : Stmt} {f : Addr} {oc : Value} {od an : Option Addr} {osl : Array (Option Value)} {kV doc pm cdv ct : Value} (X : K.In h) (G : h.Ns mainGlobals mg)
    (a : PySem.W.nsIn K mainGlobals x = some (some (.ref f))) (l : K.lookup f = some ⟨oc, od, .func (PySem.W.fnOf x x (defArgs st) (defBody st) (defScope st) .none kV doc pm an cdv ct), osl⟩)
    (c : PySem.W.codeIn K cdv x = true) (k : PySem.W.keepIn K (.ref f) = true) : DefF K mg x st := ⟨_, _, fun_mk l c k, PySem.W.mg_of X G a⟩
theorem int_mk {K : PySem.W.Frag} {h : Heap} {mg : Str → Option Value} {x : Str} {n : Int} {t : Tok} (X : K.In h) (G : h.Ns mainGlobals mg) (a : PySem.W.nsIn K mainGlobals x = some (some (.int n t))) : ∃ t, mg x = some (.int n t) := ⟨t, PySem.W.mg_of X G a⟩
theorem nat_mk {K : PySem.W.Frag} {C : Addr} {x : Str} (a : PySem.W.findIn K (.ref C) x = some none) : NoAttr K C x := a
/-- a class with an __init__ -/
structure ClsF (K : PySem.W.Frag) (mg : Str → Option Value) (x qual : Str) (st : Stmt) (C : Addr) : Prop where
  ex : ∃ f fd, Fun K "__init__" qual st f fd ∧ Mk K C f
  mC : mg x = some (.ref C)
  cl : ClsI K C
theorem cls_mk {K : PySem.W.Frag} {h : Heap} {mg : Str → Option Value} {x qual : Str} {st : Stmt} {C f : Addr} {oc : Value} {od an : Option Addr} {osl : Array (Option Value)} {kV doc pm cdv ct : Value} (X : K.In h) (G : h.Ns mainGlobals mg)
    (aC : PySem.W.nsIn K mainGlobals x = some (some (.ref C))) (a : PySem.W.findIn K (.ref C) "__init__" = some (some (.ref f))) (i : PySem.W.isFn K (.ref f) = true)
    (l : K.lookup f = some ⟨oc, od, .func (PySem.W.fnOf "__init__" qual (defArgs st) (defBody st) (defScope st) .none kV doc pm an cdv ct), osl⟩) (c : PySem.W.codeIn K cdv qual = true) (k : PySem.W.keepIn K (.ref f) = true)
    (mk : PySem.W.makesIn K C = true) (kc : PySem.W.keepIn K (.ref C) = true) (pg : PySem.W.plainGet K C Str.empty = true) (hd : PySem.W.hasDictIn K C = true) (po : PySem.W.plainOver K C = true) (sa : PySem.W.findIn K (.ref C) "__setattr__" = some (some (.builtin "object.__setattr__")))
    (ha : PySem.W.findIn K (.ref C) "__class__" = some (some (.builtin "object.__class__"))) (hn : PySem.W.specialIn K (.builtin "object.__class__") "__get__" = some (some (.builtin "getset_descriptor.__get__"))) (ht : PySem.W.takesIn K (.builtin "object.__class__") = some true) (hm : PySem.W.mroIn K C (.type "object") = some true) :
    ClsF K mg x qual st C := ⟨⟨_, _, fun_mk l c k, mk, a, i, kc⟩, PySem.W.mg_of X G aC, ⟨pg, hd, po, sa⟩, ha, hn, ht, hm⟩
structure AllF (K : PySem.W.Frag) (mg : Str → Option Value) (CS CM CB : Addr) : Prop where
  dis_integer : DefF K mg "is_integer" sIsInteger
  dis_number : DefF K mg "is_number" sIsNumber
  dis_told : DefF K mg "is_told" sIsTold
  dis_ref : DefF K mg "is_ref" sIsRef
  dis_gate : DefF K mg "is_gate" sIsGate
  dleaf_table : DefF K mg "leaf_table" sLeaf
  dtables_of : DefF K mg "tables_of" sTables
  dtable_of : DefF K mg "table_of" sTableOf
  drow_at : DefF K mg "row_at" sRowAt
  dis_saying : DefF K mg "is_saying" sIsSaying
  dban_asked : DefF K mg "ban_asked" sBan
  dgraph_of : DefF K mg "graph_of" sGraph
  dnumbered : DefF K mg "numbered" sNumbered
  dclass_numbers : DefF K mg "class_numbers" sClass
  dfew_asked : DefF K mg "few_asked" sFew
  dkin_stands : DefF K mg "kin_stands" sKin
  d_law_hand : DefF K mg "_law_hand" sHand
  d_law_draw : DefF K mg "_law_draw" sDraw
  d_law_some : DefF K mg "_law_some" sSome
  d_law_stand : DefF K mg "_law_stand" sLStand
  d_law_saying : DefF K mg "_law_saying" sLSaying
  d_law_sum_of : DefF K mg "_law_sum_of" sSumOf
  d_law_sums : DefF K mg "_law_sums" sSums
  d_law_base : DefF K mg "_law_base" sBase
  d_law_odd : DefF K mg "_law_odd" sOdd
  d_law_bits : DefF K mg "_law_bits" sBits
  d_law_turned : DefF K mg "_law_turned" sTurned
  d_law_drawn : DefF K mg "_law_drawn" sDrawn
  d_law_mixed : DefF K mg "_law_mixed" sMixed
  d_law_made : DefF K mg "_law_made" sMade
  d_law_is_in : DefF K mg "_law_is_in" sIsIn
  d_law_told_by : DefF K mg "_law_told_by" sToldBy
  d_law_sum_said : DefF K mg "_law_sum_said" sSumSaid
  d_law_classes : DefF K mg "_law_classes" sClasses
  d_law_word : DefF K mg "_law_word" sWord
  cS : ClsF K mg "Saying" "Saying.__init__" sSayInit CS
  cM : ClsF K mg "Machine" "Machine.__init__" sMachInit CM
  zlen : mg "len" = none
  zisinstance : mg "isinstance" = none
  zint : mg "int" = none
  zbool : mg "bool" = none
  ztuple : mg "tuple" = none
  zstr : mg "str" = none
  zall : mg "all" = none
  zenumerate : mg "enumerate" = none
  zrange : mg "range" = none
  zsorted : mg "sorted" = none
  zabs : mg "abs" = none
  zmin : mg "min" = none
  zlist : mg "list" = none
  zsum : mg "sum" = none
  zValueError : mg "ValueError" = none
  mMOST_LEAVES : ∃ t, mg "MOST_LEAVES" = some (.int 40 t)
  mMOST_GATES : ∃ t, mg "MOST_GATES" = some (.int 200000 t)
  mMOST_HELD : ∃ t, mg "MOST_HELD" = some (.int 16 t)
  mMOST_FREE : ∃ t, mg "MOST_FREE" = some (.int 8 t)
  mMOST_LAID : ∃ t, mg "MOST_LAID" = some (.int 4000 t)
  mMOST_KIN : ∃ t, mg "MOST_KIN" = some (.int 8 t)
  nSmany : NoAttr K CS "many"
  nSgates : NoAttr K CS "gates"
  nSref : NoAttr K CS "ref"
  nMheld : NoAttr K CM "held"
  nMfree : NoAttr K CM "free"
  nMgates : NoAttr K CM "gates"
  nMlet : NoAttr K CM "let"
  nMsteps : NoAttr K CM "steps"
  nMstart : NoAttr K CM "start"
  kSS : PySem.W.kitOne K (.ref CS) (.ref CS) = some true
  kNS : PySem.W.kitOne K (.type "NoneType") (.ref CS) = some false
  kIS : PySem.W.kitOne K (.type "int") (.ref CS) = some false
  kTS : PySem.W.kitOne K (.type "str") (.ref CS) = some false
  kUS : PySem.W.kitOne K (.type "tuple") (.ref CS) = some false
  gB : mg "NoBan" = some (.ref CB)
  xB : PySem.W.excIn K CB [.type "ValueError", .type "Exception", .type "BaseException", .type "object"] "ValueError.__new__" = true
  kB : PySem.W.keepIn K (.ref CB) = true
  bB : PySem.W.subIn K (.ref CB) (.type "BaseException") = some true
  tB : PySem.W.typeIn K (.ref CB) = some (.type "type")
  sB : PySem.W.subIn K (.ref CB) (.ref CB) = some true
  eg : PySem.W.findIn K (.ref CB) "__getattribute__" = some (some (.builtin "BaseException.__getattribute__"))
  ek : PySem.W.findIn K (.ref CB) "__getattr__" = some none
  ed : PySem.W.hasDictIn K CB = true
  ea : PySem.W.findIn K (.ref CB) "__class__" = some (some (.builtin "object.__class__"))
  en : PySem.W.specialIn K (.builtin "object.__class__") "__get__" = some (some (.builtin "getset_descriptor.__get__"))
  et : PySem.W.takesIn K (.builtin "object.__class__") = some true
  em : PySem.W.mroIn K CB (.type "object") = some true
  kit : PySem.W.kitOne K (.ref CB) (.type "ValueError") = some true
theorem callee {G : Glo} {x : Str} {st : Stmt} {spec : DSpec} {k : Nat} {ps : List Str} (d : DefF G.K G.mg x st) (h : ∀ f fd, Fun G.K x x st f fd → FnOk G.P G.w G.K G.mg G.base CX0 k f fd ps (spD G.K spec))
    (hb : ∀ (kV doc pm : Value) (an : Option Addr) (cdv ct : Value) (us : List Value), us.length = ps.length → bindArgs (PySem.W.fnOf x x (defArgs st) (defBody st) (defScope st) .none kV doc pm an cdv ct) ⟨us, []⟩ = pure (ps.zip us)) : Callee G x spec k := by
  obtain ⟨f, fd, F, m⟩ := d.ex
  exact ⟨⟨f, fd, ps, h f fd F, m, F.kp, F.binds hb⟩⟩
theorem calleeX {G : Glo} {x : Str} {st : Stmt} {C : Addr} {spec : List D → Prop} {k : Nat} {ps : List Str} (d : DefF G.K G.mg x st) (h : ∀ f fd, Fun G.K x x st f fd → FnOk G.P G.w G.K G.mg G.base (L2.CX G.P G.w) k f fd ps (spX G.K C spec))
    (hb : ∀ (kV doc pm : Value) (an : Option Addr) (cdv ct : Value) (us : List Value), us.length = ps.length → bindArgs (PySem.W.fnOf x x (defArgs st) (defBody st) (defScope st) .none kV doc pm an cdv ct) ⟨us, []⟩ = pure (ps.zip us)) : CalleeX G x C spec k := by
  obtain ⟨f, fd, F, m⟩ := d.ex
  exact ⟨⟨f, fd, ps, h f fd F, m, F.kp, F.binds hb⟩⟩
theorem maker {G : Glo} {x qual : Str} {st : Stmt} {C : Addr} {spec : SpecI} {k : Nat} {ps : List Str} (d : ClsF G.K G.mg x qual st C) (h : ∀ f fd, Fun G.K "__init__" qual st f fd → FnOk G.P G.w G.K G.mg G.base CX0 k f fd ps (spI G.K C spec))
    (hb : ∀ (kV doc pm : Value) (an : Option Addr) (cdv ct : Value) (us : List Value), us.length = ps.length → bindArgs (PySem.W.fnOf "__init__" qual (defArgs st) (defBody st) (defScope st) .none kV doc pm an cdv ct) ⟨us, []⟩ = pure (ps.zip us)) : Maker G x C spec k := by
  obtain ⟨f, fd, F, m⟩ := d.ex
  exact ⟨⟨f, fd, ps, m, h f fd F, d.mC, F.binds hb⟩⟩
theorem law_all {G : Glo} {CS CM CB c P f : Addr} (A : AllF G.K G.mg CS CM CB) (TB : LamX.TabB G.base G.mg c P) {oc kV doc pm ct : Value} {od an : Option Addr} {osl : Array (Option Value)}
    (lk : G.K.lookup f = some ⟨oc, od, .func (PySem.W.fnOf "law" "law" (defArgs sLaw) (defBody sLaw) (defScope sLaw) .none kV doc pm an (.ref c) ct), osl⟩) (hcd : PySem.W.codeIn G.K (.ref c) "law" = true) :
    FnOk G.P G.w G.K G.mg G.base CX0 9 f (PySem.W.fnOf "law" "law" (defArgs sLaw) (defBody sLaw) (defScope sLaw) .none kV doc pm an (.ref c) ct) ["script"] (spLaw G.K P) := by
  have hS : ∀ f : Str, f ∈ (["many", "gates", "ref"] : List Str) → NoAttr G.K CS f := fun f hf => by
    rcases List.mem_cons.mp hf with rfl | hf
    · exact A.nSmany
    rcases List.mem_cons.mp hf with rfl | hf
    · exact A.nSgates
    rcases List.mem_cons.mp hf with rfl | hf
    · exact A.nSref
    · cases hf
  have hM : ∀ f : Str, f ∈ (["held", "free", "gates", "let", "steps", "start"] : List Str) → NoAttr G.K CM f := fun f hf => by
    rcases List.mem_cons.mp hf with rfl | hf
    · exact A.nMheld
    rcases List.mem_cons.mp hf with rfl | hf
    · exact A.nMfree
    rcases List.mem_cons.mp hf with rfl | hf
    · exact A.nMgates
    rcases List.mem_cons.mp hf with rfl | hf
    · exact A.nMlet
    rcases List.mem_cons.mp hf with rfl | hf
    · exact A.nMsteps
    rcases List.mem_cons.mp hf with rfl | hf
    · exact A.nMstart
    · cases hf
  letI T : Txt G := { CS := CS, CM := CM, CB := CB, len := A.zlen, isinstance := A.zisinstance, int := A.zint, bool := A.zbool, tuple := A.ztuple, str := A.zstr, all := A.zall, enumerate := A.zenumerate, range := A.zrange, sorted := A.zsorted, abs := A.zabs, min := A.zmin, list := A.zlist, sum := A.zsum, MOST_LEAVES := A.mMOST_LEAVES, MOST_GATES := A.mMOST_GATES, MOST_HELD := A.mMOST_HELD, MOST_FREE := A.mMOST_FREE, MOST_LAID := A.mMOST_LAID, MOST_KIN := A.mMOST_KIN, gS := A.cS.mC, gM := A.cM.mC, gB := A.gB, cS := A.cS.cl, cM := A.cM.cl, nS := hS, nM := hM, kSS := A.kSS, kNS := A.kNS, kIS := A.kIS, kTS := A.kTS, kUS := A.kUS }
  haveI TX : TxtX G := ⟨A.xB, A.kB, A.bB, A.tB⟩
  have cInt : Callee G "is_integer" spIsInteger 1 := callee A.dis_integer (fun f fd F => ok_is_integer F) (fun _ _ _ _ _ _ us hl => match us, hl with | [_], _ => rfl)
  have cNum : Callee G "is_number" spIsNumber 2 := callee A.dis_number (fun f fd F => ok_is_number F cInt) (fun _ _ _ _ _ _ us hl => match us, hl with | [_, _], _ => rfl)
  have cTold : Callee G "is_told" spIsTold 1 := callee A.dis_told (fun f fd F => ok_is_told F) (fun _ _ _ _ _ _ us hl => match us, hl with | [_, _, _], _ => rfl)
  have cRef : Callee G "is_ref" spIsRef 2 := callee A.dis_ref (fun f fd F => ok_is_ref F cInt) (fun _ _ _ _ _ _ us hl => match us, hl with | [_, _], _ => rfl)
  have cGate : Callee G "is_gate" spIsGate 3 := callee A.dis_gate (fun f fd F => ok_is_gate F cTold cRef) (fun _ _ _ _ _ _ us hl => match us, hl with | [_, _], _ => rfl)
  have mS : Maker G "Saying" CS spSayInit 4 := maker A.cS (fun f fd F => ok_say_init F cNum cRef cGate) (fun _ _ _ _ _ _ us hl => match us, hl with | [_, _, _, _], _ => rfl)
  have cLeaf : Callee G "leaf_table" spLeaf 1 := callee A.dleaf_table (fun f fd F => ok_leaf F) (fun _ _ _ _ _ _ us hl => match us, hl with | [_, _], _ => rfl)
  have cTabs : Callee G "tables_of" spTables 2 := callee A.dtables_of (fun f fd F => ok_tables F cLeaf) (fun _ _ _ _ _ _ us hl => match us, hl with | [_, _], _ => rfl)
  have cTab : Callee G "table_of" (spTableOf G) 3 := callee A.dtable_of (fun f fd F => ok_table_of F cTabs) (fun _ _ _ _ _ _ us hl => match us, hl with | [_], _ => rfl)
  have cRow : Callee G "row_at" spRowAt 1 := callee A.drow_at (fun f fd F => ok_row_at F) (fun _ _ _ _ _ _ us hl => match us, hl with | [_, _], _ => rfl)
  have cSay : Callee G "is_saying" (spIsSaying G) 2 := callee A.dis_saying (fun f fd F => ok_is_saying F cInt) (fun _ _ _ _ _ _ us hl => match us, hl with | [_, _], _ => rfl)
  have mM : Maker G "Machine" CM (spMachInit G) 4 := maker A.cM (fun f fd F => ok_mach_init F cNum cRef cGate cSay) (fun _ _ _ _ _ _ us hl => match us, hl with | [_, _, _, _, _, _, _], _ => rfl)
  have cBan : Callee G "ban_asked" (spBan G) 3 := callee A.dban_asked (fun f fd F => ok_ban F cSay) (fun _ _ _ _ _ _ us hl => match us, hl with | [_, _], _ => rfl)
  have cGraph : Callee G "graph_of" (spGraph G) 3 := callee A.dgraph_of (fun f fd F => ok_graph F cTabs) (fun _ _ _ _ _ _ us hl => match us, hl with | [_], _ => rfl)
  have cNumb : Callee G "numbered" (spNumbered G) 1 := callee A.dnumbered (fun f fd F => ok_numbered F) (fun _ _ _ _ _ _ us hl => match us, hl with | [_], _ => rfl)
  have cClass : Callee G "class_numbers" (spClass G) 4 := callee A.dclass_numbers (fun f fd F => ok_class F cTab cNumb) (fun _ _ _ _ _ _ us hl => match us, hl with | [_, _, _], _ => rfl)
  have cFew : Callee G "few_asked" (spFew G) 4 := callee A.dfew_asked (fun f fd F => ok_few F cBan) (fun _ _ _ _ _ _ us hl => match us, hl with | [_, _], _ => rfl)
  have cKin : Callee G "kin_stands" (spKin G) 5 := callee A.dkin_stands (fun f fd F => ok_kin F cFew cClass cGraph cRow) (fun _ _ _ _ _ _ us hl => match us, hl with | [_, _], _ => rfl)
  have xBan : CalleeX G "ban_asked" CB (spBanX G) 3 := calleeX A.dban_asked (fun f fd F => x_ban F cSay) (fun _ _ _ _ _ _ us hl => match us, hl with | [_, _], _ => rfl)
  have xFew : CalleeX G "few_asked" CB (spBanX G) 4 := calleeX A.dfew_asked (fun f fd F => x_few F xBan) (fun _ _ _ _ _ _ us hl => match us, hl with | [_, _], _ => rfl)
  have xKin : CalleeX G "kin_stands" CB (spBanX G) 5 := calleeX A.dkin_stands (fun f fd F => x_kin F xFew) (fun _ _ _ _ _ _ us hl => match us, hl with | [_, _], _ => rfl)
  have cHand : Callee G "_law_hand" spHand 1 := callee A.d_law_hand (fun f fd F => ok_hand F) (fun _ _ _ _ _ _ us hl => match us, hl with | [_], _ => rfl)
  have cDraw : Callee G "_law_draw" spDraw 1 := callee A.d_law_draw (fun f fd F => ok_draw F) (fun _ _ _ _ _ _ us hl => match us, hl with | [_, _], _ => rfl)
  have cSome : Callee G "_law_some" spSome 2 := callee A.d_law_some (fun f fd F => ok_some F cDraw) (fun _ _ _ _ _ _ us hl => match us, hl with | [_, _], _ => rfl)
  have cStand : Callee G "_law_stand" spLStand 1 := callee A.d_law_stand (fun f fd F => ok_lstand F) (fun _ _ _ _ _ _ us hl => match us, hl with | [_, _], _ => rfl)
  have cSaying : Callee G "_law_saying" (spLSaying G) 6 := callee A.d_law_saying (fun f fd F => ok_lsaying F mS) (fun _ _ _ _ _ _ us hl => match us, hl with | [_, _], _ => rfl)
  have cSumOf : Callee G "_law_sum_of" spSumOf 1 := callee A.d_law_sum_of (fun f fd F => ok_sum_of F) (fun _ _ _ _ _ _ us hl => match us, hl with | [_, _, _], _ => rfl)
  have cSums : Callee G "_law_sums" (spSums G) 7 := callee A.d_law_sums (fun f fd F => ok_sums F cSumOf cSaying mM) (fun _ _ _ _ _ _ us hl => match us, hl with | [_, _, _, _], _ => rfl)
  have cBase : Callee G "_law_base" spBase 1 := callee A.d_law_base (fun f fd F => ok_base F) (fun _ _ _ _ _ _ us hl => match us, hl with | [_], _ => rfl)
  have cOdd : Callee G "_law_odd" spOdd 1 := callee A.d_law_odd (fun f fd F => ok_odd F) (fun _ _ _ _ _ _ us hl => match us, hl with | [_], _ => rfl)
  have cBits : Callee G "_law_bits" spBits 1 := callee A.d_law_bits (fun f fd F => ok_bits F) (fun _ _ _ _ _ _ us hl => match us, hl with | [_], _ => rfl)
  have cTurned : Callee G "_law_turned" spTurned 1 := callee A.d_law_turned (fun f fd F => ok_turned F) (fun _ _ _ _ _ _ us hl => match us, hl with | [_, _], _ => rfl)
  have cMixed : Callee G "_law_mixed" spMixed 1 := callee A.d_law_mixed (fun f fd F => ok_mixed F) (fun _ _ _ _ _ _ us hl => match us, hl with | [_, _, _, _], _ => rfl)
  have cDrawn : Callee G "_law_drawn" spDrawn 2 := callee A.d_law_drawn (fun f fd F => ok_drawn F cDraw cMixed) (fun _ _ _ _ _ _ us hl => match us, hl with | [_, _, _], _ => rfl)
  have cMade : Callee G "_law_made" (spMade G) 8 := callee A.d_law_made (fun f fd F => ok_made F cStand cBits cSums) (fun _ _ _ _ _ _ us hl => match us, hl with | [_, _, _, _], _ => rfl)
  have cIsIn : Callee G "_law_is_in" spIsIn 1 := callee A.d_law_is_in (fun f fd F => ok_is_in F) (fun _ _ _ _ _ _ us hl => match us, hl with | [_, _], _ => rfl)
  have cToldBy : Callee G "_law_told_by" spToldBy 2 := callee A.d_law_told_by (fun f fd F => ok_told_by F cTurned cBase cIsIn cOdd) (fun _ _ _ _ _ _ us hl => match us, hl with | [_, _], _ => rfl)
  have cSaid : Callee G "_law_sum_said" (spSumSaid G) 6 := callee A.d_law_sum_said (fun f fd F => ok_sum_said F cBits cSumOf mS) (fun _ _ _ _ _ _ us hl => match us, hl with | [_, _, _], _ => rfl)
  have cClasses : Callee G "_law_classes" (spClasses G) 2 := callee A.d_law_classes (fun f fd F => ok_classes F cOdd cStand) (fun _ _ _ _ _ _ us hl => match us, hl with | [_, _], _ => rfl)
  have W : LawW G c P := ⟨xKin, A.d_law_word.ex, A.zValueError, PySem.W.exm_ref A.bB A.ed A.tB A.sB, ⟨A.eg, A.ek, A.bB, A.ed, A.ea, A.en, A.et, A.em⟩, A.kit, TB⟩
  exact ok_law ⟨cDraw, cDrawn, cMade, cSome, cToldBy, cClasses, cKin, cSaid⟩ cHand W lk hcd
theorem law_at {l : PySem.W.OpenLaw} {w : World} {K : PySem.W.Frag} {h : Heap} {mg : Str → Option Value} {fa CS CM CB c P f : Addr} {oc kV doc pm ct : Value} {od an : Option Addr} {osl : Array (Option Value)} (X : K.In h) (G : h.Ns mainGlobals mg) (hfa : mg "law" = some (.ref fa)) (hT : h.get? P = some (PySem.W.tabObj #[]))
    (A : AllF K mg CS CM CB) (aL : PySem.W.nsIn K mainGlobals "law" = some (some (.ref f))) (lL : K.lookup f = some ⟨oc, od, .func (PySem.W.fnOf "law" "law" (defArgs sLaw) (defBody sLaw) (defScope sLaw) .none kV doc pm an (.ref c) ct), osl⟩) (cL : PySem.W.codeIn K (.ref c) "law" = true)
    (nT : K.lookup P = none) (hh : PySem.W.codeHdIn K c P = true) : LamX.LawAtS l w K CX0 9 63 "script" mg fa h := by
  have e := hfa.symm.trans (PySem.W.mg_of X G aL)
  cases e
  refine ⟨PySem.W.fnOf "law" "law" (defArgs sLaw) (defBody sLaw) (defScope sLaw) .none kV doc pm an (.ref c) ct, [(c, P)], spLaw K P, fun p hp => ?_, fun p hp => ?_, fun p hp => ?_, fun s u => .of_eq rfl, fun H a ns _ _ hH hS => ?_, fun base KB GB TB => ?_⟩
  · cases List.mem_singleton.mp hp
    exact hT
  · cases List.mem_singleton.mp hp
    exact nT
  · cases List.mem_singleton.mp hp
    exact PySem.W.codeHd_of_K X hh
  · exact ⟨a, ns, rfl, hS, hH _ List.mem_cons_self, fun _ => rfl⟩
  · exact law_all (G := ⟨l.prog, w, K, mg, base⟩) A (TB _ List.mem_cons_self) lL cL
theorem walk {l : PySem.W.OpenLaw} {q : Program} {loose : List Str} {XP : (Str → Option Value) → Heap → Prop} {d : DefRec} {K : Params → PySem.W.Frag} {as : List Addr} {e : ∀ P, as = (K P).map (·.1)} {P : Addr} (hn : l.most = some 63) (hdf : d.params.defaults = [])
    (F : ∀ (w : World) (mg : Str → Option Value) (fa : Addr) (h : Heap), (K w.params).In h → h.Ns mainGlobals mg → mg d.name = some (.ref fa) → h.get? P = some (PySem.W.tabObj #[]) → LamX.LawAtS l w (K w.params) CX0 9 63 "script" mg fa h) :
    PySem.W.WalkO q loose XP (PySem.W.kmHook K as e [P]).says l.row.toRowW d [] (fun f vs => PySem.call f vs) :=
  LamX.walk_ofTs (CX := fun _ => CX0) hn (by decide) hdf ⟨rfl, by decide, by decide⟩ (fun w h Y => PySem.W.km_in_of Y) (fun w mg fa h Y KX G hmg => F w mg fa h KX G hmg (PySem.W.km_tabs_of Y P List.mem_cons_self)) fun _ _ _ _ _ z => z
end K13
open PySem PySem.W PyProof.Rows in
set_option maxRecDepth 100000 in
set_option maxHeartbeats 0 in
theorem PySem.Challenge.cw_walkorkeeper_k13_whole_kin_stands_by_sum_holds : PySem.Challenge.rw_walkorkeeper_k13_whole_kin_stands_by_sum.Holds := by
  w_on; o_law; k_head; (case hw => w_witness2)
  k_fill
  refine K13.walk (l := PySem.Challenge.rw_walkorkeeper_k13_whole_kin_stands_by_sum) rfl rfl ?F
  case F =>
    intro w mg fa h KX G hmg hT
    refine' K13.law_at KX G hmg hT (K13.AllF.mk
      (K13.def_mk KX G ?a0 ?l0 ?c0 ?k0)
      (K13.def_mk KX G ?a1 ?l1 ?c1 ?k1)
      (K13.def_mk KX G ?a2 ?l2 ?c2 ?k2)
      (K13.def_mk KX G ?a3 ?l3 ?c3 ?k3)
      (K13.def_mk KX G ?a4 ?l4 ?c4 ?k4)
      (K13.def_mk KX G ?a5 ?l5 ?c5 ?k5)
      (K13.def_mk KX G ?a6 ?l6 ?c6 ?k6)
      (K13.def_mk KX G ?a7 ?l7 ?c7 ?k7)
      (K13.def_mk KX G ?a8 ?l8 ?c8 ?k8)
      (K13.def_mk KX G ?a9 ?l9 ?c9 ?k9)
      (K13.def_mk KX G ?a10 ?l10 ?c10 ?k10)
      (K13.def_mk KX G ?a11 ?l11 ?c11 ?k11)
      (K13.def_mk KX G ?a12 ?l12 ?c12 ?k12)
      (K13.def_mk KX G ?a13 ?l13 ?c13 ?k13)
      (K13.def_mk KX G ?a14 ?l14 ?c14 ?k14)
      (K13.def_mk KX G ?a15 ?l15 ?c15 ?k15)
      (K13.def_mk KX G ?a16 ?l16 ?c16 ?k16)
      (K13.def_mk KX G ?a17 ?l17 ?c17 ?k17)
      (K13.def_mk KX G ?a18 ?l18 ?c18 ?k18)
      (K13.def_mk KX G ?a19 ?l19 ?c19 ?k19)
      (K13.def_mk KX G ?a20 ?l20 ?c20 ?k20)
      (K13.def_mk KX G ?a21 ?l21 ?c21 ?k21)
      (K13.def_mk KX G ?a22 ?l22 ?c22 ?k22)
      (K13.def_mk KX G ?a23 ?l23 ?c23 ?k23)
      (K13.def_mk KX G ?a24 ?l24 ?c24 ?k24)
      (K13.def_mk KX G ?a25 ?l25 ?c25 ?k25)
      (K13.def_mk KX G ?a26 ?l26 ?c26 ?k26)
      (K13.def_mk KX G ?a27 ?l27 ?c27 ?k27)
      (K13.def_mk KX G ?a28 ?l28 ?c28 ?k28)
      (K13.def_mk KX G ?a29 ?l29 ?c29 ?k29)
      (K13.def_mk KX G ?a30 ?l30 ?c30 ?k30)
      (K13.def_mk KX G ?a31 ?l31 ?c31 ?k31)
      (K13.def_mk KX G ?a32 ?l32 ?c32 ?k32)
      (K13.def_mk KX G ?a33 ?l33 ?c33 ?k33)
      (K13.def_mk KX G ?a34 ?l34 ?c34 ?k34)
      (K13.cls_mk KX G ?s0 ?s1 ?s2 ?s3 ?s4 ?s5 ?s6 ?s7 ?s8 ?s9 ?s10 ?s11 ?s12 ?s13 ?s14 ?s15)
      (K13.cls_mk KX G ?m0 ?m1 ?m2 ?m3 ?m4 ?m5 ?m6 ?m7 ?m8 ?m9 ?m10 ?m11 ?m12 ?m13 ?m14 ?m15)
      (PySem.W.mg_none_of KX G ?zlen)
      (PySem.W.mg_none_of KX G ?zisinstance)
      (PySem.W.mg_none_of KX G ?zint)
      (PySem.W.mg_none_of KX G ?zbool)
      (PySem.W.mg_none_of KX G ?ztuple)
      (PySem.W.mg_none_of KX G ?zstr)
      (PySem.W.mg_none_of KX G ?zall)
      (PySem.W.mg_none_of KX G ?zenumerate)
      (PySem.W.mg_none_of KX G ?zrange)
      (PySem.W.mg_none_of KX G ?zsorted)
      (PySem.W.mg_none_of KX G ?zabs)
      (PySem.W.mg_none_of KX G ?zmin)
      (PySem.W.mg_none_of KX G ?zlist)
      (PySem.W.mg_none_of KX G ?zsum)
      (PySem.W.mg_none_of KX G ?zValueError)
      (K13.int_mk KX G ?qMOST_LEAVES)
      (K13.int_mk KX G ?qMOST_GATES)
      (K13.int_mk KX G ?qMOST_HELD)
      (K13.int_mk KX G ?qMOST_FREE)
      (K13.int_mk KX G ?qMOST_LAID)
      (K13.int_mk KX G ?qMOST_KIN)
      (K13.nat_mk ?nsmany)
      (K13.nat_mk ?nsgates)
      (K13.nat_mk ?nsref)
      (K13.nat_mk ?nmheld)
      (K13.nat_mk ?nmfree)
      (K13.nat_mk ?nmgates)
      (K13.nat_mk ?nmlet)
      (K13.nat_mk ?nmsteps)
      (K13.nat_mk ?nmstart)
      ?kSS
      ?kNS
      ?kIS
      ?kTS
      ?kUS
      (PySem.W.mg_of KX G ?gB)
      ?xB
      ?kB
      ?bB
      ?tB
      ?sB
      ?eg
      ?ek
      ?ed
      ?ea
      ?en
      ?et
      ?em
      ?kit) ?aL ?lL ?cL ?nT ?hh
    (case a0 => k_is)
    (case l0 => k_is)
    (case c0 => k_is)
    (case k0 => k_is)
    (case a1 => k_is)
    (case l1 => k_is)
    (case c1 => k_is)
    (case k1 => k_is)
    (case a2 => k_is)
    (case l2 => k_is)
    (case c2 => k_is)
    (case k2 => k_is)
    (case a3 => k_is)
    (case l3 => k_is)
    (case c3 => k_is)
    (case k3 => k_is)
    (case a4 => k_is)
    (case l4 => k_is)
    (case c4 => k_is)
    (case k4 => k_is)
    (case a5 => k_is)
    (case l5 => k_is)
    (case c5 => k_is)
    (case k5 => k_is)
    (case a6 => k_is)
    (case l6 => k_is)
    (case c6 => k_is)
    (case k6 => k_is)
    (case a7 => k_is)
    (case l7 => k_is)
    (case c7 => k_is)
    (case k7 => k_is)
    (case a8 => k_is)
    (case l8 => k_is)
    (case c8 => k_is)
    (case k8 => k_is)
    (case a9 => k_is)
    (case l9 => k_is)
    (case c9 => k_is)
    (case k9 => k_is)
    (case a10 => k_is)
    (case l10 => k_is)
    (case c10 => k_is)
    (case k10 => k_is)
    (case a11 => k_is)
    (case l11 => k_is)
    (case c11 => k_is)
    (case k11 => k_is)
    (case a12 => k_is)
    (case l12 => k_is)
    (case c12 => k_is)
    (case k12 => k_is)
    (case a13 => k_is)
    (case l13 => k_is)
    (case c13 => k_is)
    (case k13 => k_is)
    (case a14 => k_is)
    (case l14 => k_is)
    (case c14 => k_is)
    (case k14 => k_is)
    (case a15 => k_is)
    (case l15 => k_is)
    (case c15 => k_is)
    (case k15 => k_is)
    (case a16 => k_is)
    (case l16 => k_is)
    (case c16 => k_is)
    (case k16 => k_is)
    (case a17 => k_is)
    (case l17 => k_is)
    (case c17 => k_is)
    (case k17 => k_is)
    (case a18 => k_is)
    (case l18 => k_is)
    (case c18 => k_is)
    (case k18 => k_is)
    (case a19 => k_is)
    (case l19 => k_is)
    (case c19 => k_is)
    (case k19 => k_is)
    (case a20 => k_is)
    (case l20 => k_is)
    (case c20 => k_is)
    (case k20 => k_is)
    (case a21 => k_is)
    (case l21 => k_is)
    (case c21 => k_is)
    (case k21 => k_is)
    (case a22 => k_is)
    (case l22 => k_is)
    (case c22 => k_is)
    (case k22 => k_is)
    (case a23 => k_is)
    (case l23 => k_is)
    (case c23 => k_is)
    (case k23 => k_is)
    (case a24 => k_is)
    (case l24 => k_is)
    (case c24 => k_is)
    (case k24 => k_is)
    (case a25 => k_is)
    (case l25 => k_is)
    (case c25 => k_is)
    (case k25 => k_is)
    (case a26 => k_is)
    (case l26 => k_is)
    (case c26 => k_is)
    (case k26 => k_is)
    (case a27 => k_is)
    (case l27 => k_is)
    (case c27 => k_is)
    (case k27 => k_is)
    (case a28 => k_is)
    (case l28 => k_is)
    (case c28 => k_is)
    (case k28 => k_is)
    (case a29 => k_is)
    (case l29 => k_is)
    (case c29 => k_is)
    (case k29 => k_is)
    (case a30 => k_is)
    (case l30 => k_is)
    (case c30 => k_is)
    (case k30 => k_is)
    (case a31 => k_is)
    (case l31 => k_is)
    (case c31 => k_is)
    (case k31 => k_is)
    (case a32 => k_is)
    (case l32 => k_is)
    (case c32 => k_is)
    (case k32 => k_is)
    (case a33 => k_is)
    (case l33 => k_is)
    (case c33 => k_is)
    (case k33 => k_is)
    (case a34 => k_is)
    (case l34 => k_is)
    (case c34 => k_is)
    (case k34 => k_is)
    (case s0 => k_is)
    (case s1 => k_is)
    (case s2 => k_is)
    (case s3 => k_is)
    (case s4 => k_is)
    (case s5 => k_is)
    (case s6 => k_is)
    (case s7 => k_is)
    (case s8 => k_is)
    (case s9 => k_is)
    (case s10 => k_is)
    (case s11 => k_is)
    (case s12 => k_is)
    (case s13 => k_is)
    (case s14 => k_is)
    (case s15 => k_is)
    (case m0 => k_is)
    (case m1 => k_is)
    (case m2 => k_is)
    (case m3 => k_is)
    (case m4 => k_is)
    (case m5 => k_is)
    (case m6 => k_is)
    (case m7 => k_is)
    (case m8 => k_is)
    (case m9 => k_is)
    (case m10 => k_is)
    (case m11 => k_is)
    (case m12 => k_is)
    (case m13 => k_is)
    (case m14 => k_is)
    (case m15 => k_is)
    (case zlen => k_is)
    (case zisinstance => k_is)
    (case zint => k_is)
    (case zbool => k_is)
    (case ztuple => k_is)
    (case zstr => k_is)
    (case zall => k_is)
    (case zenumerate => k_is)
    (case zrange => k_is)
    (case zsorted => k_is)
    (case zabs => k_is)
    (case zmin => k_is)
    (case zlist => k_is)
    (case zsum => k_is)
    (case zValueError => k_is)
    (case qMOST_LEAVES => k_is)
    (case qMOST_GATES => k_is)
    (case qMOST_HELD => k_is)
    (case qMOST_FREE => k_is)
    (case qMOST_LAID => k_is)
    (case qMOST_KIN => k_is)
    (case nsmany => k_is)
    (case nsgates => k_is)
    (case nsref => k_is)
    (case nmheld => k_is)
    (case nmfree => k_is)
    (case nmgates => k_is)
    (case nmlet => k_is)
    (case nmsteps => k_is)
    (case nmstart => k_is)
    (case kSS => kernel_rfl)
    (case kNS => kernel_rfl)
    (case kIS => kernel_rfl)
    (case kTS => kernel_rfl)
    (case kUS => kernel_rfl)
    (case gB => k_is)
    (case xB => k_exc)
    (case kB => k_is)
    (case bB => k_is)
    (case tB => k_is)
    (case sB => k_is)
    (case eg => k_is)
    (case ek => k_is)
    (case ed => k_is)
    (case ea => k_is)
    (case en => k_is)
    (case et => k_is)
    (case em => k_is)
    (case kit => kernel_rfl)
    (case aL => k_is)
    (case lL => k_is)
    (case cL => k_is)
    (case nT => kernel_rfl)
    (case hh => kernel_rfl)
