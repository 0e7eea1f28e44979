import PyProof.Rows.All
import Wide.All
import OpenK.AllK
import Wide.FinOn
import HandS.ForMost
import HandS.More
import HandS.WordsExc
import HandS.Defaults
import HandS.Property
import HandS.HeadEnd
import HandS.TupAny
import HandS.Conv
import HandS.Walk
import HandS.IsInst
import HandS.MethStar
import HandS.SortRule
import HandS.OwnEq
import HandS.HeadHook1
import HandS.HeadHook2
import HandS.HeadNt
import PySem.Challenge.RW_rowqueue_k07_whole_late_in_any_order
import HandS.DictComp
import HandS.Exc
import HandS.ReSub
import KE.KUnpackStar
import KE.GoesEnum
import KE.GoesMore
import HandS.SetFor
import KE.KDictPairs
import HandS.Style
import PyProof.StrOps2
import KE.KStateDown
import HandS.Head0
import HandS.Head1
import HandS.Head2
set_option Elab.async false
set_option linter.all false
set_option maxRecDepth 100000
set_option maxHeartbeats 4000000
/-! Dx: data-level readings over the layer HandS: values as data D, states as assertions over the heap. -/
namespace Dx
open PySem PySem.Spec PyProof.Rows L2

/-- data: what a value stands for; ktup: a tuple of the module; ref: an object that is told elsewhere -/
inductive D where
  | non | bl (b : Bool) | int (i : Int) | str (x : Str) | tup (ds : List D) | ktup (ds : List D) | lst (ds : List D) | ref (a : Addr)
/-- x: the lists that no data holds (they are being made); c: those of them that may change now -/
structure AS where
  x : Addr → Prop
  c : Addr → Prop
  sub : ∀ a, c a → x a
/-- one more that is being made, not changed now; one more that is changed -/
def AS.hide (M : AS) (p : Addr) : AS := ⟨fun a => M.x a ∨ a = p, M.c, fun a h => .inl (M.sub a h)⟩
def AS.own (M : AS) (p : Addr) : AS := ⟨fun a => M.x a ∨ a = p, fun a => M.c a ∨ a = p, fun a h => h.imp (M.sub a) id⟩
def AS.no : AS := ⟨fun _ => False, fun _ => False, fun _ h => h⟩
abbrev LS := List (Option D)

mutual
inductive Rp (K : PySem.W.Frag) (M : AS) (H : Hp) : V → D → Prop
  | non : Rp K M H .non .non
  | bl (b : Bool) : Rp K M H (.bl b) (.bl b)
  | int (i : Int) : Rp K M H (.int i) (.int i)
  | str (x : Str) : Rp K M H (.str x) (.str x)
  | tup {a : Addr} {xs : List V} {ds : List D} : H a = some (.tup xs) → RpL K M H xs ds → Rp K M H (.ref a) (.tup ds)
  | ktup {a : Addr} {xs : List V} {ds : List D} : (∀ H', SqT K H' a xs) → RpL K M H xs ds → Rp K M H (.ref a) (.ktup ds)
  | lst {a : Addr} {xs : List V} {ds : List D} : H a = some (.lst xs) → ¬ M.x a → RpL K M H xs ds → Rp K M H (.ref a) (.lst ds)
  | ref (a : Addr) : Rp K M H (.ref a) (.ref a)
inductive RpL (K : PySem.W.Frag) (M : AS) (H : Hp) : List V → List D → Prop
  | nil : RpL K M H [] []
  | cons {v : V} {vs : List V} {d : D} {ds : List D} : Rp K M H v d → RpL K M H vs ds → RpL K M H (v :: vs) (d :: ds)
end
/-- what every step keeps: tuples, lists that are not being changed, what is tracked -/
structure Kp (M : AS) (H H' : Hp) : Prop where
  tup : ∀ a xs, H a = some (.tup xs) → H' a = some (.tup xs)
  lst : ∀ a xs, H a = some (.lst xs) → ¬ M.c a → H' a = some (.lst xs)
  trk : ∀ a, H a ≠ none → H' a ≠ none
theorem Kp.refl {M : AS} (H : Hp) : Kp M H H := ⟨fun _ _ h => h, fun _ _ h _ => h, fun _ h => h⟩
theorem Kp.trans {M : AS} {H H1 H2 : Hp} (a : Kp M H H1) (b : Kp M H1 H2) : Kp M H H2 :=
  ⟨fun x xs h => b.tup x xs (a.tup x xs h), fun x xs h m => b.lst x xs (a.lst x xs h m) m, fun x h => b.trk x (a.trk x h)⟩
theorem Same.trk {H H' : Hp} (e : Same H H') (a : Addr) (h : H a ≠ none) : H' a ≠ none := by
  cases q : H a with
  | none => exact absurd q h
  | some o =>
    rw [e a o q]
    exact fun z => by cases z
theorem Kp.of_same {M : AS} {H H' : Hp} (e : Same H H') : Kp M H H' := ⟨fun a xs h => e a _ h, fun a xs h _ => e a _ h, Same.trk e⟩
theorem Same.new {H : Hp} {p : Addr} {o : HO} (h : H p = none) : Same H (upd H p o) := fun b u e => by
  rw [upd_ne (ne_of_none e h)]
  exact e
theorem Kp.new {M : AS} {H : Hp} {p : Addr} {o : HO} (h : H p = none) : Kp M H (upd H p o) := .of_same (Same.new h)
/-- a change of a thing that is no tuple, and a list only if it is being changed -/
theorem Kp.upd {M : AS} {H : Hp} {p : Addr} {u o : HO} (h : H p = some u) (ht : ∀ xs, u ≠ .tup xs) (hl : M.c p ∨ ∀ xs, u ≠ .lst xs) : Kp M H (upd H p o) where
  tup := fun a xs e => by
    by_cases z : a = p
    · subst z
      rw [h] at e
      exact absurd (Option.some.inj e) (ht xs)
    · rw [upd_ne z]
      exact e
  lst := fun a xs e m => by
    by_cases z : a = p
    · subst z
      rw [h] at e
      rcases hl with k | k
      · exact absurd k m
      · exact absurd (Option.some.inj e) (k xs)
    · rw [upd_ne z]
      exact e
  trk := fun a e => by
    by_cases z : a = p
    · subst z
      rw [upd_same]
      exact fun q => by cases q
    · rw [upd_ne z]
      exact e
theorem Kp.free {M : AS} {H H' : Hp} (k : Kp M H H') {a : Addr} (h : H' a = none) : H a = none := by
  cases q : H a with
  | none => rfl
  | some o => exact absurd h (k.trk a (by rw [q]; exact fun z => by cases z))
theorem Kp.fewer {M M' : AS} {H H' : Hp} (k : Kp M' H H') (h : ∀ a, M'.c a → M.c a ∨ H a = none) : Kp M H H' := ⟨k.tup, fun a xs e m => k.lst a xs e fun z => (h a z).elim m fun q => (by rw [q] at e; cases e), k.trk⟩
theorem Kp.less {M M' : AS} {H H' : Hp} (k : Kp M H H') (h : ∀ a, M.c a → M'.c a) : Kp M' H H' := ⟨k.tup, fun a xs e m => k.lst a xs e fun z => m (h a z), k.trk⟩

section
variable {K : PySem.W.Frag} {M M' : AS} {H H' : Hp}
mutual
theorem Rp.kp (k : Kp M H H') : ∀ (d : D) (v : V), Rp K M H v d → Rp K M H' v d
  | .non, _, h => by cases h; exact .non
  | .bl b, _, h => by cases h; exact .bl b
  | .int i, _, h => by cases h; exact .int i
  | .str x, _, h => by cases h; exact .str x
  | .ref a, _, h => by cases h; exact .ref a
  | .tup ds, _, h => by
    cases h with
    | tup e r => exact .tup (k.tup _ _ e) (RpL.kp k ds _ r)
  | .ktup ds, _, h => by
    cases h with
    | ktup e r => exact .ktup e (RpL.kp k ds _ r)
  | .lst ds, _, h => by
    cases h with
    | lst e m r => exact .lst (k.lst _ _ e fun z => m (M.sub _ z)) m (RpL.kp k ds _ r)
theorem RpL.kp (k : Kp M H H') : ∀ (ds : List D) (vs : List V), RpL K M H vs ds → RpL K M H' vs ds
  | [], _, h => by cases h; exact .nil
  | d :: ds, _, h => by
    cases h with
    | cons a b => exact .cons (Rp.kp k d _ a) (RpL.kp k ds _ b)
end
mutual
/-- fewer lists are being changed -/
theorem Rp.less (k : ∀ a, M'.x a → M.x a) : ∀ (d : D) (v : V), Rp K M H v d → Rp K M' H v d
  | .non, _, h => by cases h; exact .non
  | .bl b, _, h => by cases h; exact .bl b
  | .int i, _, h => by cases h; exact .int i
  | .str x, _, h => by cases h; exact .str x
  | .ref a, _, h => by cases h; exact .ref a
  | .tup ds, _, h => by
    cases h with
    | tup e r => exact .tup e (RpL.less k ds _ r)
  | .ktup ds, _, h => by
    cases h with
    | ktup e r => exact .ktup e (RpL.less k ds _ r)
  | .lst ds, _, h => by
    cases h with
    | lst e m r => exact .lst e (fun z => m (k _ z)) (RpL.less k ds _ r)
theorem RpL.less (k : ∀ a, M'.x a → M.x a) : ∀ (ds : List D) (vs : List V), RpL K M H vs ds → RpL K M' H vs ds
  | [], _, h => by cases h; exact .nil
  | d :: ds, _, h => by
    cases h with
    | cons a b => exact .cons (Rp.less k d _ a) (RpL.less k ds _ b)
end
mutual
/-- more lists are being changed, new ones -/
theorem Rp.more (k : ∀ a, M'.x a → M.x a ∨ H a = none) : ∀ (d : D) (v : V), Rp K M H v d → Rp K M' H v d
  | .non, _, h => by cases h; exact .non
  | .bl b, _, h => by cases h; exact .bl b
  | .int i, _, h => by cases h; exact .int i
  | .str x, _, h => by cases h; exact .str x
  | .ref a, _, h => by cases h; exact .ref a
  | .tup ds, _, h => by
    cases h with
    | tup e r => exact .tup e (RpL.more k ds _ r)
  | .ktup ds, _, h => by
    cases h with
    | ktup e r => exact .ktup e (RpL.more k ds _ r)
  | .lst ds, _, h => by
    cases h with
    | lst e m r => exact .lst e (fun z => (k _ z).elim m fun q => by rw [q] at e; cases e) (RpL.more k ds _ r)
theorem RpL.more (k : ∀ a, M'.x a → M.x a ∨ H a = none) : ∀ (ds : List D) (vs : List V), RpL K M H vs ds → RpL K M' H vs ds
  | [], _, h => by cases h; exact .nil
  | d :: ds, _, h => by
    cases h with
    | cons a b => exact .cons (Rp.more k d _ a) (RpL.more k ds _ b)
end
theorem RpL.length : ∀ {vs : List V} {ds : List D}, RpL K M H vs ds → vs.length = ds.length
  | [], _, h => by cases h; rfl
  | v :: vs, _, h => by
    cases h with
    | cons a b => exact congrArg (· + 1) (RpL.length b)
theorem RpL.get : ∀ {vs : List V} {ds : List D} {i : Nat} {d : D}, RpL K M H vs ds → ds[i]? = some d → ∃ v, vs[i]? = some v ∧ Rp K M H v d
  | [], _, i, d, h, e => by cases h; simp at e
  | v :: vs, _, 0, d, h, e => by
    cases h with
    | cons a b =>
      simp at e
      subst e
      exact ⟨v, rfl, a⟩
  | v :: vs, _, i + 1, d, h, e => by
    cases h with
    | cons a b =>
      obtain ⟨u, e1, r⟩ := RpL.get (i := i) b (by simpa using e)
      exact ⟨u, by simpa using e1, r⟩
theorem RpL.getV : ∀ {vs : List V} {ds : List D} {i : Nat} {v : V}, RpL K M H vs ds → vs[i]? = some v → ∃ d, ds[i]? = some d ∧ Rp K M H v d
  | [], _, i, v, h, e => by simp at e
  | v :: vs, _, 0, w, h, e => by
    cases h with
    | cons a b =>
      simp at e
      subst e
      exact ⟨_, rfl, a⟩
  | v :: vs, _, i + 1, w, h, e => by
    cases h with
    | cons a b =>
      obtain ⟨u, e1, r⟩ := RpL.getV (i := i) b (by simpa using e)
      exact ⟨u, by simpa using e1, r⟩
theorem RpL.append : ∀ {vs ws : List V} {ds es : List D}, RpL K M H vs ds → RpL K M H ws es → RpL K M H (vs ++ ws) (ds ++ es)
  | [], _, _, _, h, k => by cases h; exact k
  | v :: vs, _, _, _, h, k => by
    cases h with
    | cons a b => exact .cons a (RpL.append b k)
theorem RpL.take : ∀ (n : Nat) {vs : List V} {ds : List D}, RpL K M H vs ds → RpL K M H (vs.take n) (ds.take n)
  | 0, _, _, _ => .nil
  | n + 1, [], _, h => by cases h; exact .nil
  | n + 1, v :: vs, _, h => by
    cases h with
    | cons a b => exact .cons a (RpL.take n b)
theorem RpL.drop : ∀ (n : Nat) {vs : List V} {ds : List D}, RpL K M H vs ds → RpL K M H (vs.drop n) (ds.drop n)
  | 0, _, _, h => h
  | n + 1, [], _, h => by cases h; exact .nil
  | n + 1, v :: vs, _, h => by
    cases h with
    | cons a b => exact RpL.drop n b
theorem RpL.set {v : V} {d : D} (r : Rp K M H v d) : ∀ (i : Nat) {vs : List V} {ds : List D}, RpL K M H vs ds → RpL K M H (vs.set i v) (ds.set i d)
  | _, [], _, h => by cases h; exact .nil
  | 0, w :: vs, _, h => by
    cases h with
    | cons a b => exact .cons r b
  | i + 1, w :: vs, _, h => by
    cases h with
    | cons a b => exact .cons a (RpL.set r i b)
theorem RpL.rep {vs : List V} {ds : List D} (h : RpL K M H vs ds) : ∀ n : Nat, RpL K M H (List.replicate n vs).flatten (List.replicate n ds).flatten
  | 0 => .nil
  | n + 1 => by
    rw [List.replicate_succ, List.replicate_succ, List.flatten_cons, List.flatten_cons]
    exact h.append (RpL.rep h n)
theorem RpL.one {v : V} {d : D} (h : Rp K M H v d) : RpL K M H [v] [d] := .cons h .nil
theorem RpL.strs : ∀ xs : List Str, RpL K M H (xs.map V.str) (xs.map D.str)
  | [] => .nil
  | x :: xs => .cons (.str x) (RpL.strs xs)
theorem RpL.ints : ∀ xs : List Int, RpL K M H (xs.map V.int) (xs.map D.int)
  | [] => .nil
  | x :: xs => .cons (.int x) (RpL.ints xs)
theorem RpL.strs_inv : ∀ {xs : List Str} {vs : List V}, RpL K M H vs (xs.map D.str) → vs = xs.map V.str
  | [], _, h => by cases h; rfl
  | x :: xs, _, h => by
    cases h with
    | cons a b =>
      cases a
      rw [RpL.strs_inv b]
      rfl
theorem RpL.ints_inv : ∀ {xs : List Int} {vs : List V}, RpL K M H vs (xs.map D.int) → vs = xs.map V.int
  | [], _, h => by cases h; rfl
  | x :: xs, _, h => by
    cases h with
    | cons a b =>
      cases a
      rw [RpL.ints_inv b]
      rfl
theorem RpL.bls_inv : ∀ {xs : List Bool} {vs : List V}, RpL K M H vs (xs.map D.bl) → vs = xs.map V.bl
  | [], _, h => by cases h; rfl
  | x :: xs, _, h => by
    cases h with
    | cons a b =>
      cases a
      rw [RpL.bls_inv b]
      rfl
theorem Rp.tup_inv {v : V} {ds : List D} (h : Rp K M H v (.tup ds)) : ∃ a xs, v = .ref a ∧ SqT K H a xs ∧ RpL K M H xs ds := by
  cases h with
  | tup e r => exact ⟨_, _, rfl, SqT.of e, r⟩
theorem Rp.tup_inv' {v : V} {ds : List D} (h : Rp K M H v (.tup ds)) : ∃ a xs, v = .ref a ∧ H a = some (.tup xs) ∧ RpL K M H xs ds := by
  cases h with
  | tup e r => exact ⟨_, _, rfl, e, r⟩
theorem Rp.ktup_inv {v : V} {ds : List D} (h : Rp K M H v (.ktup ds)) : ∃ a xs, v = .ref a ∧ (∀ H', SqT K H' a xs) ∧ RpL K M H xs ds := by
  cases h with
  | ktup e r => exact ⟨_, _, rfl, e, r⟩
theorem Rp.lst_inv {v : V} {ds : List D} (h : Rp K M H v (.lst ds)) : ∃ a xs, v = .ref a ∧ H a = some (.lst xs) ∧ ¬ M.x a ∧ RpL K M H xs ds := by
  cases h with
  | lst e m r => exact ⟨_, _, rfl, e, m, r⟩
theorem Rp.int_inv {v : V} {i : Int} (h : Rp K M H v (.int i)) : v = .int i := by cases h; rfl
theorem Rp.str_inv {v : V} {x : Str} (h : Rp K M H v (.str x)) : v = .str x := by cases h; rfl
theorem Rp.bl_inv {v : V} {b : Bool} (h : Rp K M H v (.bl b)) : v = .bl b := by cases h; rfl
theorem Rp.non_inv {v : V} (h : Rp K M H v .non) : v = .non := by cases h; rfl
theorem Rp.ref_inv {v : V} {a : Addr} (h : Rp K M H v (.ref a)) : v = .ref a := by cases h; rfl
end

/-! ### assertions over the heap -/
/-- what stands at L stands, tuples stand, what is tracked is tracked -/
structure Fr (L : Addr → Prop) (H H' : Hp) : Prop where
  keep : ∀ a o, L a → H a = some o → H' a = some o
  tup : ∀ a xs, H a = some (.tup xs) → H' a = some (.tup xs)
  trk : ∀ a, H a ≠ none → H' a ≠ none
theorem Fr.of_same {L : Addr → Prop} {H H' : Hp} (e : Same H H') : Fr L H H' := ⟨fun a o _ h => e a o h, fun a xs h => e a _ h, Same.trk e⟩
theorem Fr.upd {L : Addr → Prop} {H : Hp} {a : Addr} {u o : HO} (h : H a = some u) (ht : ∀ xs, u ≠ .tup xs) (n : ¬ L a) : Fr L H (upd H a o) where
  keep := fun b x l q => by
    rw [upd_ne (fun z => n (by rw [← z]; exact l))]
    exact q
  tup := fun b xs q => by
    by_cases z : b = a
    · subst z
      rw [h] at q
      exact absurd (Option.some.inj q) (ht xs)
    · rw [upd_ne z]
      exact q
  trk := fun b q => by
    by_cases z : b = a
    · subst z
      rw [upd_same]
      exact fun w => by cases w
    · rw [upd_ne z]
      exact q
theorem Fr.less {L L' : Addr → Prop} {H H' : Hp} (f : Fr L H H') (h : ∀ a, L' a → L a) : Fr L' H H' := ⟨fun a o l => f.keep a o (h a l), f.tup, f.trk⟩
/-- L: the things on which p leans (it may name more), besides tuples -/
structure As where
  p : Hp → Prop
  L : Addr → Prop
  fr : ∀ {H H' : Hp}, Fr L H H' → p H → p H'
  trk : ∀ {H : Hp} {a : Addr}, p H → L a → H a ≠ none
theorem As.mono (A : As) {H H' : Hp} (e : Same H H') (h : A.p H) : A.p H' := A.fr (.of_same e) h
theorem As.stab (A : As) {H : Hp} {a : Addr} {xs ys : List V} (e : H a = some (.lst xs)) (n : ¬ A.L a) (h : A.p H) : A.p (upd H a (.lst ys)) := A.fr (.upd e (fun _ z => by cases z) n) h
/-- all that stood at H0 stands -/
def As.same (H0 : Hp) : As where
  p := fun H => Same H0 H
  L := fun a => H0 a ≠ none
  fr := fun f h b x q => f.keep b x (by rw [q]; exact fun z => by cases z) (h b x q)
  trk := fun h n => Same.trk h _ n
def As.and (A B : As) : As where
  p := fun H => A.p H ∧ B.p H
  L := fun a => A.L a ∨ B.L a
  fr := fun f h => ⟨A.fr (f.less fun _ => .inl) h.1, B.fr (f.less fun _ => .inr) h.2⟩
  trk := fun h l => l.elim (A.trk h.1) (B.trk h.2)
/-- a fact that no heap changes -/
def As.pure (φ : Prop) : As where
  p := fun _ => φ
  L := fun _ => False
  fr := fun _ h => h
  trk := fun _ l => l.elim
/-- all that stood at H0 stands, but for the things in S; tuples stand; what was tracked is tracked -/
structure Mv (S : List Addr) (H H' : Hp) : Prop where
  keep : ∀ a o, H a = some o → a ∉ S → H' a = some o
  tup : ∀ a xs, H a = some (.tup xs) → H' a = some (.tup xs)
  trk : ∀ a, H a ≠ none → H' a ≠ none
theorem Mv.refl {S : List Addr} (H : Hp) : Mv S H H := ⟨fun _ _ h _ => h, fun _ _ h => h, fun _ h => h⟩
theorem Mv.trans {S : List Addr} {H H1 H2 : Hp} (a : Mv S H H1) (b : Mv S H1 H2) : Mv S H H2 :=
  ⟨fun x o h n => b.keep x o (a.keep x o h n) n, fun x xs h => b.tup x xs (a.tup x xs h), fun x h => b.trk x (a.trk x h)⟩
theorem Mv.of_same {S : List Addr} {H H' : Hp} (e : Same H H') : Mv S H H' := ⟨fun a o h _ => e a o h, fun a xs h => e a _ h, Same.trk e⟩
theorem Mv.same {H H' : Hp} (m : Mv [] H H') : Same H H' := fun a o h => m.keep a o h (by simp)
theorem Mv.sub {S S' : List Addr} {H H' : Hp} (m : Mv S H H') (h : ∀ a ∈ S, a ∈ S') : Mv S' H H' := ⟨fun a o e n => m.keep a o e fun z => n (h a z), m.tup, m.trk⟩
/-- what is new may be in S -/
theorem Mv.sub' {S S' : List Addr} {H H' : Hp} (m : Mv S H H') (h : ∀ a ∈ S, a ∈ S' ∨ H a = none) : Mv S' H H' := ⟨fun a o e n => m.keep a o e fun z => (h a z).elim n fun q => (by rw [q] at e; cases e), m.tup, m.trk⟩
theorem Mv.upd {S : List Addr} {H : Hp} {a : Addr} {u o : HO} (h : H a = some u) (ht : ∀ xs, u ≠ .tup xs) (hs : a ∈ S) : Mv S H (upd H a o) where
  keep := fun b x e n => by
    have z : b ≠ a := fun z => n (z ▸ hs)
    rw [upd_ne z]
    exact e
  tup := fun b xs e => by
    by_cases z : b = a
    · subst z
      rw [h] at e
      exact absurd (Option.some.inj e) (ht xs)
    · rw [upd_ne z]
      exact e
  trk := fun b e => by
    by_cases z : b = a
    · subst z
      rw [upd_same]
      exact fun q => by cases q
    · rw [upd_ne z]
      exact e
theorem Mv.free {S : List Addr} {H H' : Hp} (m : Mv S H H') {a : Addr} (h : H' a = none) : H a = none := by
  cases q : H a with
  | none => rfl
  | some o => exact absurd h (m.trk a (by rw [q]; exact fun z => by cases z))
theorem Mv.kp {S : List Addr} {M : AS} {H H' : Hp} (m : Mv S H H') (h : ∀ a ∈ S, M.c a ∨ H a = none ∨ ∀ xs, H a ≠ some (.lst xs)) : Kp M H H' :=
  ⟨m.tup, fun a xs e n => m.keep a _ e fun z => by
    rcases h a z with k | k | k
    · exact n k
    · rw [k] at e
      cases e
    · exact k xs e, m.trk⟩
theorem Mv.fr {S : List Addr} {L : Addr → Prop} {H H' : Hp} (m : Mv S H H') (h : ∀ a ∈ S, L a → H a = none) : Fr L H H' := ⟨fun a o l e => m.keep a o e fun z => (by rw [h a z l] at e; cases e), m.tup, m.trk⟩
theorem As.frame (A : As) {S : List Addr} {H H' : Hp} (m : Mv S H H') (n : ∀ a ∈ S, A.L a → H a = none) (h : A.p H) : A.p H' := A.fr (m.fr n) h
def As.mv (S : List Addr) (H0 : Hp) : As where
  p := fun H => Mv S H0 H
  L := fun a => H0 a ≠ none ∧ a ∉ S
  fr := fun f h => ⟨fun b x q m => f.keep b x ⟨by rw [q]; exact fun z => (by cases z), m⟩ (h.keep b x q m), fun b xs q => f.tup b xs (h.tup b xs q), fun b q => f.trk b (h.trk b q)⟩
  trk := fun h n => h.trk _ n.1

/-! ### the slots -/
def RelS (K : PySem.W.Frag) (M : AS) (H : Hp) (σ : L2.St) (δ : LS) : Prop := σ.length = δ.length ∧ ∀ (i : Nat) (d : D), δ[i]? = some (some d) → ∃ v, σ[i]? = some (some v) ∧ Rp K M H v d
abbrev Tr (M : AS) (H : Hp) : Prop := ∀ a, M.x a → H a ≠ none
section
variable {K : PySem.W.Frag} {M M' : AS} {H H' : Hp} {σ : L2.St} {δ : LS}
theorem RelS.kp (r : RelS K M H σ δ) (k : Kp M H H') : RelS K M H' σ δ := ⟨r.1, fun i d e => by
  obtain ⟨v, e1, q⟩ := r.2 i d e
  exact ⟨v, e1, q.kp k d v⟩⟩
theorem RelS.more (r : RelS K M H σ δ) (k : ∀ a, M'.x a → M.x a ∨ H a = none) : RelS K M' H σ δ := ⟨r.1, fun i d e => by
  obtain ⟨v, e1, q⟩ := r.2 i d e
  exact ⟨v, e1, q.more k d v⟩⟩
theorem RelS.less (r : RelS K M H σ δ) (k : ∀ a, M'.x a → M.x a) : RelS K M' H σ δ := ⟨r.1, fun i d e => by
  obtain ⟨v, e1, q⟩ := r.2 i d e
  exact ⟨v, e1, q.less k d v⟩⟩
theorem RelS.set (r : RelS K M H σ δ) (j : Nat) {v : V} {d : D} (q : Rp K M H v d) : RelS K M H (σ.set j (some v)) (δ.set j (some d)) := ⟨by rw [List.length_set, List.length_set]; exact r.1, fun i e h => by
  by_cases z : j = i
  · subst z
    by_cases hj : j < δ.length
    · rw [List.getElem?_set_self hj] at h
      cases h
      exact ⟨v, by rw [List.getElem?_set_self (by rw [r.1]; exact hj)], q⟩
    · rw [List.getElem?_eq_none (by rw [List.length_set]; omega)] at h
      cases h
  · rw [List.getElem?_set_ne z] at h ⊢
    exact r.2 i e h⟩
theorem RelS.forget (r : RelS K M H σ δ) (j : Nat) : RelS K M H σ (δ.set j none) := ⟨by rw [List.length_set]; exact r.1, fun i e h => by
  by_cases z : j = i
  · subst z
    by_cases hj : j < δ.length
    · rw [List.getElem?_set_self hj] at h
      cases h
    · rw [List.getElem?_eq_none (by rw [List.length_set]; omega)] at h
      cases h
  · rw [List.getElem?_set_ne z] at h
    exact r.2 i e h⟩
def wipeL (δ : LS) : List Nat → LS
  | [] => δ
  | v :: vs => (wipeL δ vs).set v none
theorem RelS.wipe (r : RelS K M H σ δ) : ∀ vs : List Nat, RelS K M H (wipe σ vs) (wipeL δ vs)
  | [] => r
  | v :: vs => by
    have r1 := RelS.wipe r vs
    refine ⟨by unfold L2.wipe wipeL; rw [List.length_set, List.length_set]; exact r1.1, fun i e h => ?_⟩
    unfold wipeL at h
    unfold L2.wipe
    by_cases z : v = i
    · subst z
      by_cases hj : v < (wipeL δ vs).length
      · rw [List.getElem?_set_self hj] at h
        cases h
      · rw [List.getElem?_eq_none (by rw [List.length_set]; omega)] at h
        cases h
    · rw [List.getElem?_set_ne z] at h ⊢
      exact r1.2 i e h
theorem wipe_set {x : Option V} {j : Nat} : ∀ {vs : List Nat} {σ : L2.St}, j ∈ vs → L2.wipe (σ.set j x) vs = L2.wipe σ vs
  | [], σ, h => by simp at h
  | v :: vs, σ, h => by
    unfold L2.wipe
    by_cases z : v = j
    · subst z
      by_cases hm : v ∈ vs
      · rw [wipe_set hm]
      · have e : L2.wipe (σ.set v x) vs = (L2.wipe σ vs).set v x := by
          clear h
          induction vs with
          | nil => rfl
          | cons u us ih =>
            have hu : u ≠ v := fun z => hm (by rw [z]; exact List.mem_cons.mpr (.inl rfl))
            unfold L2.wipe
            rw [ih (fun z => hm (List.mem_cons.mpr (.inr z))), List.set_comm _ _ hu.symm]
        rw [e, List.set_set]
    · have hm : j ∈ vs := (List.mem_cons.mp h).resolve_left fun q => z q.symm
      rw [wipe_set hm]
end
structure St0 (K : PySem.W.Frag) (M : AS) (A : As) (δ : LS) (σ : L2.St) (H : Hp) : Prop where
  a : A.p H
  tr : Tr M H
  s : RelS K M H σ δ
theorem St0.kp {K : PySem.W.Frag} {M : AS} {A B : As} {δ : LS} {σ : L2.St} {H H' : Hp} (s : St0 K M A δ σ H) (k : Kp M H H') (b : B.p H') : St0 K M B δ σ H' := ⟨b, fun a m => k.trk a (s.tr a m), s.s.kp k⟩
theorem St0.same {K : PySem.W.Frag} {M : AS} {A : As} {δ : LS} {σ : L2.St} {H H' : Hp} (s : St0 K M A δ σ H) (e : Same H H') : St0 K M A δ σ H' := s.kp (.of_same e) (A.mono e s.a)

/-! ### readings -/
def tC (K : PySem.W.Frag) (M : AS) (A : As) (δ : LS) (B : As) (d : D) : TE := fun σ H Q => St0 K M A δ σ H ∧ ∀ v H', Kp M H H' → B.p H' → Rp K M H' v d → Q v H'
def tCT (K : PySem.W.Frag) (M : AS) (A : As) (δ : LS) (B : As) (b : Bool) : TT := fun σ H Q => St0 K M A δ σ H ∧ ∀ H', Kp M H H' → B.p H' → Q b H'
def tCA (K : PySem.W.Frag) (M : AS) (A : As) (δ : LS) (B : As) (ds : List D) : TA := fun σ H Q => St0 K M A δ σ H ∧ ∀ vs H', Kp M H H' → B.p H' → RpL K M H' vs ds → Q vs H'
inductive Out where
  | nx (B : As) (δ : LS) | rt (B : As) (d : D) | bk (B : As) (δ : LS) | all (o : (Nat → Addr) → Out) | rx (p : Hp → D → Prop)
def Out.ok (K : PySem.W.Frag) (M : AS) (H : Hp) (E : Ends) : Out → Prop
  | .nx B δ => ∀ σ' H', Kp M H H' → B.p H' → RelS K M H' σ' δ → E.nx σ' H'
  | .rt B d => ∀ v H', Kp M H H' → B.p H' → Rp K M H' v d → E.rt v H'
  | .bk B δ => ∀ σ' H', Kp M H H' → B.p H' → RelS K M H' σ' δ → E.bk σ' H'
  | .all o => ∀ g : Nat → Addr, (∀ i, H (g i) = none) → (o g).ok K M H E
  | .rx p => ∀ v H' d, Kp M H H' → p H' d → Rp K M H' v d → E.rt v H'
theorem Out.ok_kp {K : PySem.W.Frag} {M : AS} {H H' : Hp} {E : Ends} (k : Kp M H H') : ∀ {o : Out}, o.ok K M H E → o.ok K M H' E
  | .nx B δ, h => fun σ' H2 k2 => h σ' H2 (k.trans k2)
  | .rt B d, h => fun v H2 k2 => h v H2 (k.trans k2)
  | .bk B δ, h => fun σ' H2 k2 => h σ' H2 (k.trans k2)
  | .all o, h => fun g n => Out.ok_kp k (h g fun i => by
      cases q : H (g i) with
      | none => rfl
      | some x => exact absurd (n i) (k.trk _ (by rw [q]; exact fun z => by cases z)))
  | .rx p, h => fun v H2 d k2 => h v H2 d (k.trans k2)
def tO (K : PySem.W.Frag) (M : AS) (A : As) (δ : LS) (o : Out) : TS := fun E σ H => St0 K M A δ σ H ∧ o.ok K M H E

section
variable {X : Cx}
theorem pe_imp {e : Expr} {t t' : TE} (h : PE X e t) (i : ∀ σ H Q, t' σ H Q → t σ H Q) : PE X e t' := ⟨fun pins s σ H Q I q => h.run pins s σ H Q I (i σ H Q q)⟩
theorem pt_imp {e : Expr} {t t' : TT} (h : PT X e t) (i : ∀ σ H Q, t' σ H Q → t σ H Q) : PT X e t' := ⟨fun pins s σ H Q I q => h.run pins s σ H Q I (i σ H Q q)⟩
theorem pw_imp {e : Expr} {t t' : TT} (h : PW X e t) (i : ∀ σ H Q, t' σ H Q → t σ H Q) : PW X e t' := ⟨fun wh pins s σ H Q I q => h.run wh pins s σ H Q I (i σ H Q q)⟩
theorem pa_imp {es : List Expr} {t t' : TA} (h : PA X es t) (i : ∀ σ H Q, t' σ H Q → t σ H Q) : PA X es t' := ⟨fun pos pins s σ H Q I q => h.run pos pins s σ H Q I (i σ H Q q)⟩
theorem ps_imp {st : Stmt} {t t' : TS} (h : PS X st t) (i : ∀ E σ H, t' E σ H → t E σ H) : PS X st t' := ⟨fun pins s σ H E I q => h.run pins s σ H E I (i E σ H q)⟩
theorem pss_imp {sts : List Stmt} {t t' : TS} (h : PSs X sts t) (i : ∀ E σ H, t' E σ H → t E σ H) : PSs X sts t' := ⟨fun pins s σ H E I q => h.run pins s σ H E I (i E σ H q)⟩
theorem pe_no {e : Expr} : PE X e (fun _ _ _ => False) := ⟨fun _ _ _ _ _ _ h => h.elim⟩
theorem pt_no {e : Expr} : PT X e (fun _ _ _ => False) := ⟨fun _ _ _ _ _ _ h => h.elim⟩
theorem pw_no {e : Expr} : PW X e (fun _ _ _ => False) := ⟨fun _ _ _ _ _ _ _ h => h.elim⟩
/-- any reading that is shown -/
def anyS (X : Cx) (sts : List Stmt) : TS := fun E σ H => ∃ t, PSs X sts t ∧ t E σ H
theorem pss_any {sts : List Stmt} : PSs X sts (anyS X sts) := ⟨fun pins s σ H E I ⟨t, h, q⟩ => h.run pins s σ H E I q⟩
end
end Dx
set_option Elab.async false
set_option linter.all false
set_option maxRecDepth 100000
set_option maxHeartbeats 4000000
namespace Dx
open PySem PySem.Spec PyProof.Rows L2

section
variable {X : Cx} {M : AS} {A B C G : As} {δ : LS} {pos : Pos} {x y z d : D} {a b e : Expr}

/-! ### names, constants -/
theorem e_var (i : Nat) {n : Str} (hd : δ[i]? = some (some d) := by rfl) (hN : X.N[i]? = some n := by rfl) (hv : Vis X.env.scope n := by first | exact Or.inl rfl | exact Or.inr (Or.inl rfl) | exact Or.inr (Or.inr rfl))
    (h1 : (n == ("__debug__" : Str)) = false := by decide) (h2 : (n == ("__classdict__" : Str)) = false := by decide) : PE X (.Name n pos) (tC X.K M A δ A d) :=
  pe_imp (pe_var hN hv h1 h2) fun σ H Q ⟨s, q⟩ => by
    obtain ⟨v, ev, r⟩ := s.s.2 i d hd
    exact ⟨v, ev, q v H (Kp.refl H) s.a r⟩
theorem e_int {i : Int} {j} : PE X (.Constant (.int i) j pos) (tC X.K M A δ A (.int i)) := pe_imp pe_int fun σ H Q ⟨s, q⟩ => q _ H (Kp.refl H) s.a (.int i)
theorem e_bl {i : Bool} {j} : PE X (.Constant (.bool i) j pos) (tC X.K M A δ A (.bl i)) := pe_imp pe_bl fun σ H Q ⟨s, q⟩ => q _ H (Kp.refl H) s.a (.bl i)
theorem e_str {i : Str} {j} : PE X (.Constant (.str i) j pos) (tC X.K M A δ A (.str i)) := pe_imp pe_str fun σ H Q ⟨s, q⟩ => q _ H (Kp.refl H) s.a (.str i)
theorem e_non {j} : PE X (.Constant .none j pos) (tC X.K M A δ A .non) := pe_imp pe_non fun σ H Q ⟨s, q⟩ => q _ H (Kp.refl H) s.a .non
theorem e_glob {n : Str} {v : V} {u : Value} (hm : X.mg n = some u) (r : RelV v u) (rp : ∀ H, Rp X.K M H v d) (hg : Gl X n := by rfl) (hd : (n == ("__debug__" : Str)) = false := by decide) : PE X (.Name n pos) (tC X.K M A δ A d) :=
  pe_imp (pe_glob hg hm r hd) fun σ H Q ⟨s, q⟩ => q v H (Kp.refl H) s.a (rp H)
/-- the state behind may be told weaker -/
theorem e_to (h : PE X e (tC X.K M A δ B d)) (i : ∀ H, B.p H → C.p H) : PE X e (tC X.K M A δ C d) := pe_imp h fun σ H Q ⟨s, q⟩ => ⟨s, fun v H' k b r => q v H' k (i H' b) r⟩
theorem e_from (h : PE X e (tC X.K M B δ C d)) (i : ∀ H, A.p H → B.p H) : PE X e (tC X.K M A δ C d) := pe_imp h fun σ H Q ⟨s, q⟩ => ⟨⟨i H s.a, s.tr, s.s⟩, q⟩
theorem e_is {d' : D} (h : PE X e (tC X.K M A δ B d)) (i : d = d') : PE X e (tC X.K M A δ B d') := i ▸ h

/-! ### operators -/
/-- r on the data x, y gives z: only new things -/
def RD (K : PySem.W.Frag) (M : AS) (C : As) (r : R2) (x y z : D) : Prop := ∀ (H : Hp) (v w : V), C.p H → Tr M H → Rp K M H v x → Rp K M H w y → ∀ Q : VK, (∀ u H', Same H H' → Rp K M H' u z → Q u H') → r v w H Q
theorem e_op {op : Operator} {r : R2} (ho : OpR X (binaryOp op) r) (ha : PE X a (tC X.K M A δ B x)) (hb : PE X b (tC X.K M B δ C y)) (hr : RD X.K M C r x y z) : PE X (.BinOp a op b pos) (tC X.K M A δ C z) :=
  pe_imp (pe_op ho ha hb) fun σ H Q ⟨s, q⟩ => ⟨s, fun v H1 k1 b1 r1 => ⟨s.kp k1 b1, fun w H2 k2 c2 r2 => hr H2 v w c2 (fun m hm => k2.trk m (k1.trk m (s.tr m hm))) (r1.kp k2 x v) r2 _ fun u H3 e3 r3 =>
    q u H3 ((k1.trans k2).trans (.of_same e3)) (C.mono e3 c2) r3⟩⟩
theorem e_cmp {op : CmpOp} {r : R2} (ho : OpR X (compareOp op) r) (ha : PE X a (tC X.K M A δ B x)) (hb : PE X b (tC X.K M B δ C y)) (hr : RD X.K M C r x y z) (hm : behindInMarks op b = false := by first | rfl | exact nomark _) : PE X (.Compare a [op] [b] pos) (tC X.K M A δ C z) :=
  pe_imp (pe_cmpR ho ha hb hm) fun σ H Q ⟨s, q⟩ => ⟨s, fun v H1 k1 b1 r1 => ⟨s.kp k1 b1, fun w H2 k2 c2 r2 => hr H2 v w c2 (fun m hm => k2.trk m (k1.trk m (s.tr m hm))) (r1.kp k2 x v) r2 _ fun u H3 e3 r3 =>
    q u H3 ((k1.trans k2).trans (.of_same e3)) (C.mono e3 c2) r3⟩⟩
theorem e_ix {r : R2} (hr0 : IxR X r) (ha : PE X a (tC X.K M A δ B x)) (hb : PE X b (tC X.K M B δ C y)) (hr : RD X.K M C r x y z) (hs : PlainIx b := by exact fun _ _ => rfl) : PE X (.Subscript a b pos) (tC X.K M A δ C z) :=
  pe_imp (pe_ix hr0 ha hb hs) fun σ H Q ⟨s, q⟩ => ⟨s, fun v H1 k1 b1 r1 => ⟨s.kp k1 b1, fun w H2 k2 c2 r2 => hr H2 v w c2 (fun m hm => k2.trk m (k1.trk m (s.tr m hm))) (r1.kp k2 x v) r2 _ fun u H3 e3 r3 =>
    q u H3 ((k1.trans k2).trans (.of_same e3)) (C.mono e3 c2) r3⟩⟩
theorem rd_I0 {K : PySem.W.Frag} {g : Int → Int → V} {i j : Int} (h : ∀ H, Rp K M H (g i j) z) : RD K M C (rI0 g) (.int i) (.int j) z := fun H v w c t r1 r2 Q q => by
  cases r1
  cases r2
  exact ⟨i, j, rfl, rfl, q _ H (Same.refl H) (h H)⟩
theorem rd_I {K : PySem.W.Frag} {P : Int → Int → Prop} {g : Int → Int → V} {i j : Int} (hp : P i j) (h : ∀ H, Rp K M H (g i j) z) : RD K M C (rI P g) (.int i) (.int j) z := fun H v w c t r1 r2 Q q => by
  cases r1
  cases r2
  exact ⟨i, j, rfl, rfl, hp, q _ H (Same.refl H) (h H)⟩
theorem e_add {i j : Int} (ha : PE X a (tC X.K M A δ B (.int i))) (hb : PE X b (tC X.K M B δ C (.int j))) : PE X (.BinOp a .Add b pos) (tC X.K M A δ C (.int (i + j))) := e_op op_add ha hb (rd_I0 fun _ => .int _)
theorem e_sub {i j : Int} (ha : PE X a (tC X.K M A δ B (.int i))) (hb : PE X b (tC X.K M B δ C (.int j))) : PE X (.BinOp a .Sub b pos) (tC X.K M A δ C (.int (i - j))) := e_op op_sub ha hb (rd_I0 fun _ => .int _)
theorem e_mul {i j : Int} (ha : PE X a (tC X.K M A δ B (.int i))) (hb : PE X b (tC X.K M B δ C (.int j))) (h : CMul i j) : PE X (.BinOp a .Mult b pos) (tC X.K M A δ C (.int (i * j))) := e_op op_mul ha hb (rd_I h fun _ => .int _)
theorem e_mod {i j : Int} (ha : PE X a (tC X.K M A δ B (.int i))) (hb : PE X b (tC X.K M B δ C (.int j))) (h : 0 < j) : PE X (.BinOp a .Mod b pos) (tC X.K M A δ C (.int (i % j))) := e_op op_mod ha hb (rd_I h fun _ => .int _)
theorem e_fdiv {i j : Int} (ha : PE X a (tC X.K M A δ B (.int i))) (hb : PE X b (tC X.K M B δ C (.int j))) (h : CDiv i j) : PE X (.BinOp a .FloorDiv b pos) (tC X.K M A δ C (.int (i / j))) := e_op op_fdiv ha hb (rd_I h fun _ => .int _)
theorem e_lt {i j : Int} (ha : PE X a (tC X.K M A δ B (.int i))) (hb : PE X b (tC X.K M B δ C (.int j))) : PE X (.Compare a [.Lt] [b] pos) (tC X.K M A δ C (.bl (decide (i < j)))) := e_cmp op_lt ha hb (rd_I0 fun _ => .bl _)
theorem e_le {i j : Int} (ha : PE X a (tC X.K M A δ B (.int i))) (hb : PE X b (tC X.K M B δ C (.int j))) : PE X (.Compare a [.LtE] [b] pos) (tC X.K M A δ C (.bl (decide (i ≤ j)))) := e_cmp op_le ha hb (rd_I0 fun _ => .bl _)
theorem e_gt {i j : Int} (ha : PE X a (tC X.K M A δ B (.int i))) (hb : PE X b (tC X.K M B δ C (.int j))) : PE X (.Compare a [.Gt] [b] pos) (tC X.K M A δ C (.bl (decide (j < i)))) := e_cmp op_gt ha hb (rd_I0 fun _ => .bl _)
theorem e_ge {i j : Int} (ha : PE X a (tC X.K M A δ B (.int i))) (hb : PE X b (tC X.K M B δ C (.int j))) : PE X (.Compare a [.GtE] [b] pos) (tC X.K M A δ C (.bl (decide (j ≤ i)))) := e_cmp op_ge ha hb (rd_I0 fun _ => .bl _)
/-- scalars -/
inductive Sc : D → V → Prop
  | non : Sc .non .non | bl (b : Bool) : Sc (.bl b) (.bl b) | int (i : Int) : Sc (.int i) (.int i) | str (x : Str) : Sc (.str x) (.str x)
theorem Sc.v {K : PySem.W.Frag} {H : Hp} {v w : V} (s : Sc x w) (r : Rp K M H v x) : v = w := by
  cases s <;> cases r <;> rfl
theorem Sc.r {K : PySem.W.Frag} {H : Hp} {w : V} (s : Sc x w) : Rp K M H w x := by
  cases s
  · exact .non
  · exact .bl _
  · exact .int _
  · exact .str _
theorem rd_eq {K : PySem.W.Frag} {v w : V} {k : Bool} (sx : Sc x v) (sy : Sc y w) (h : scal v w = true) (e : decide (v = w) = k) : RD K M C rEq x y (.bl k) := fun H v' w' c t r1 r2 Q q => by
  rw [sx.v r1, sy.v r2]
  exact ⟨h, by rw [e]; exact q _ H (Same.refl H) (.bl k)⟩
theorem rd_ne {K : PySem.W.Frag} {v w : V} {k : Bool} (sx : Sc x v) (sy : Sc y w) (h : scal v w = true) (e : (!decide (v = w)) = k) : RD K M C rNe x y (.bl k) := fun H v' w' c t r1 r2 Q q => by
  rw [sx.v r1, sy.v r2]
  exact ⟨h, by rw [e]; exact q _ H (Same.refl H) (.bl k)⟩
theorem dec_s {i j : Str} : decide (V.str i = V.str j) = decide (i = j) := by
  by_cases h : i = j
  · subst h; simp
  · rw [decide_eq_false h, decide_eq_false fun q => h (V.str.inj q)]
theorem dec_i {i j : Int} : decide (V.int i = V.int j) = decide (i = j) := by
  by_cases h : i = j
  · subst h; simp
  · rw [decide_eq_false h, decide_eq_false fun q => h (V.int.inj q)]
theorem e_eqS {i j : Str} (ha : PE X a (tC X.K M A δ B (.str i))) (hb : PE X b (tC X.K M B δ C (.str j))) : PE X (.Compare a [.Eq] [b] pos) (tC X.K M A δ C (.bl (decide (i = j)))) := e_cmp op_eq ha hb (rd_eq (.str i) (.str j) rfl dec_s)
theorem e_neS {i j : Str} (ha : PE X a (tC X.K M A δ B (.str i))) (hb : PE X b (tC X.K M B δ C (.str j))) : PE X (.Compare a [.NotEq] [b] pos) (tC X.K M A δ C (.bl (!decide (i = j)))) := e_cmp op_ne ha hb (rd_ne (.str i) (.str j) rfl (by rw [dec_s]))
theorem e_eqI {i j : Int} (ha : PE X a (tC X.K M A δ B (.int i))) (hb : PE X b (tC X.K M B δ C (.int j))) : PE X (.Compare a [.Eq] [b] pos) (tC X.K M A δ C (.bl (decide (i = j)))) := e_cmp op_eq ha hb (rd_eq (.int i) (.int j) rfl dec_i)
theorem e_neI {i j : Int} (ha : PE X a (tC X.K M A δ B (.int i))) (hb : PE X b (tC X.K M B δ C (.int j))) : PE X (.Compare a [.NotEq] [b] pos) (tC X.K M A δ C (.bl (!decide (i = j)))) := e_cmp op_ne ha hb (rd_ne (.int i) (.int j) rfl (by rw [dec_i]))
theorem e_eqX {v w : V} {k : Bool} (ha : PE X a (tC X.K M A δ B x)) (hb : PE X b (tC X.K M B δ C y)) (sx : Sc x v) (sy : Sc y w) (h : scal v w = true) (e : decide (v = w) = k) : PE X (.Compare a [.Eq] [b] pos) (tC X.K M A δ C (.bl k)) := e_cmp op_eq ha hb (rd_eq sx sy h e)
theorem e_isN {k : Bool} {j pos'} (ha : PE X a (tC X.K M A δ B x)) (h : ∀ (K : PySem.W.Frag) H v, Rp K M H v x → decide (v = .non) = k) : PE X (.Compare a [.Is] [.Constant .none j pos'] pos) (tC X.K M A δ B (.bl k)) :=
  e_cmp op_isN ha e_non fun H v w c t r1 r2 Q q => by
    cases r2
    exact ⟨rfl, by rw [h X.K H v r1]; exact q _ H (Same.refl H) (.bl k)⟩
theorem e_notN {k : Bool} {j pos'} (ha : PE X a (tC X.K M A δ B x)) (h : ∀ (K : PySem.W.Frag) H v, Rp K M H v x → decide (v = .non) = k) : PE X (.Compare a [.IsNot] [.Constant .none j pos'] pos) (tC X.K M A δ B (.bl (!k))) :=
  e_cmp op_notN ha e_non fun H v w c t r1 r2 Q q => by
    cases r2
    exact ⟨rfl, by rw [h X.K H v r1]; exact q _ H (Same.refl H) (.bl _)⟩
theorem e_adds {i j : Str} (ha : PE X a (tC X.K M A δ B (.str i))) (hb : PE X b (tC X.K M B δ C (.str j))) (h : i.length + j.length ≤ sizeLine) : PE X (.BinOp a .Add b pos) (tC X.K M A δ C (.str (i ++ j))) :=
  e_op op_add_str ha hb fun H v w c t r1 r2 Q q => by
    cases r1
    cases r2
    exact ⟨i, j, rfl, rfl, h, q _ H (Same.refl H) (.str _)⟩
theorem Same.newK {H : Hp} {K : PySem.W.Frag} {p : Addr} {o : HO} (h : H p = none) {vs : List V} {ds : List D} (r : RpL K M H vs ds) : RpL K M (upd H p o) vs ds := r.kp (.new h) ds vs
theorem tr_new {H : Hp} {p : Addr} (t : Tr M H) (h : H p = none) : ¬ M.x p := fun m => t p m h
/-- list + list, of data -/
theorem e_cat {ds es : List D} (ha : PE X a (tC X.K M A δ B (.lst ds))) (hb : PE X b (tC X.K M B δ C (.lst es))) (h : ds.length + es.length ≤ sizeLine) : PE X (.BinOp a .Add b pos) (tC X.K M A δ C (.lst (ds ++ es))) :=
  e_op op_cat ha hb fun H v w c t r1 r2 Q q => by
    obtain ⟨p1, xs, rfl, h1, m1, l1⟩ := r1.lst_inv
    obtain ⟨p2, ys, rfl, h2, m2, l2⟩ := r2.lst_inv
    exact ⟨p1, p2, xs, ys, rfl, rfl, h1, h2, by rw [l1.length, l2.length]; exact h, fun p hp => q _ _ (Same.new hp) (.lst upd_same (tr_new t hp) (Same.newK hp (l1.append l2)))⟩
theorem e_rep {ds : List D} {k : Int} (ha : PE X a (tC X.K M A δ B (.lst ds))) (hb : PE X b (tC X.K M B δ C (.int k))) (h0 : -(2 ^ 63) ≤ k) (h1 : k < 2 ^ 63) (h : ds.length * k.toNat ≤ sizeLine) : PE X (.BinOp a .Mult b pos) (tC X.K M A δ C (.lst (List.replicate k.toNat ds).flatten)) :=
  e_op op_rep ha hb fun H v w c t r1 r2 Q q => by
    obtain ⟨p1, xs, rfl, g1, m1, l1⟩ := r1.lst_inv
    cases r2
    exact ⟨p1, k, xs, rfl, rfl, g1, h0, h1, by rw [l1.length]; exact h, fun p hp => q _ _ (Same.new hp) (.lst upd_same (tr_new t hp) (Same.newK hp (l1.rep _)))⟩
/-- tuple + tuple -/
theorem e_catT {ds es : List D} (ha : PE X a (tC X.K M A δ B (.tup ds))) (hb : PE X b (tC X.K M B δ C (.tup es))) (h : ds.length + es.length ≤ sizeLine) : PE X (.BinOp a .Add b pos) (tC X.K M A δ C (.tup (ds ++ es))) :=
  e_op op_catA ha hb fun H v w c t r1 r2 Q q => by
    have r1' := r1
    have r2' := r2
    obtain ⟨p1, xs, rfl, h1, l1⟩ := r1.tup_inv
    obtain ⟨p2, ys, rfl, h2, l2⟩ := r2.tup_inv
    refine ⟨p1, p2, xs, ys, rfl, rfl, h1, h2, by rw [l1.length, l2.length]; exact h, fun e => ?_, fun _ e => ?_, fun _ _ p hp => q _ _ (Same.new hp) (.tup upd_same (Same.newK hp (l1.append l2)))⟩
    · subst e
      cases l1
      exact q _ H (Same.refl H) r2'
    · subst e
      cases l2
      rw [List.append_nil] at q
      exact q _ H (Same.refl H) r1'

/-! ### comparisons as tests -/
theorem t_cmp {op : CmpOp} {r : R2} {k : Bool} (ho : OpR X (compareOp op) r) (ha : PE X a (tC X.K M A δ B x)) (hb : PE X b (tC X.K M B δ C y)) (hr : RD X.K M C r x y (.bl k)) (hm : behindInMarks op b = false := by first | rfl | exact nomark _) : PT X (.Compare a [op] [b] pos) (tCT X.K M A δ C k) :=
  pt_imp (pt_cmpR ho ha hb hm) fun σ H Q ⟨s, q⟩ => ⟨s, fun v H1 k1 b1 r1 => ⟨s.kp k1 b1, fun w H2 k2 c2 r2 => hr H2 v w c2 (fun m hm => k2.trk m (k1.trk m (s.tr m hm))) (r1.kp k2 x v) r2 _ fun u H3 e3 r3 => by
    cases r3
    exact ⟨k, rfl, q H3 ((k1.trans k2).trans (.of_same e3)) (C.mono e3 c2)⟩⟩⟩
theorem t_lt {i j : Int} (ha : PE X a (tC X.K M A δ B (.int i))) (hb : PE X b (tC X.K M B δ C (.int j))) : PT X (.Compare a [.Lt] [b] pos) (tCT X.K M A δ C (decide (i < j))) := t_cmp op_lt ha hb (rd_I0 fun _ => .bl _)
theorem t_le {i j : Int} (ha : PE X a (tC X.K M A δ B (.int i))) (hb : PE X b (tC X.K M B δ C (.int j))) : PT X (.Compare a [.LtE] [b] pos) (tCT X.K M A δ C (decide (i ≤ j))) := t_cmp op_le ha hb (rd_I0 fun _ => .bl _)
theorem t_gt {i j : Int} (ha : PE X a (tC X.K M A δ B (.int i))) (hb : PE X b (tC X.K M B δ C (.int j))) : PT X (.Compare a [.Gt] [b] pos) (tCT X.K M A δ C (decide (j < i))) := t_cmp op_gt ha hb (rd_I0 fun _ => .bl _)
theorem t_ge {i j : Int} (ha : PE X a (tC X.K M A δ B (.int i))) (hb : PE X b (tC X.K M B δ C (.int j))) : PT X (.Compare a [.GtE] [b] pos) (tCT X.K M A δ C (decide (j ≤ i))) := t_cmp op_ge ha hb (rd_I0 fun _ => .bl _)
theorem t_eqS {i j : Str} (ha : PE X a (tC X.K M A δ B (.str i))) (hb : PE X b (tC X.K M B δ C (.str j))) : PT X (.Compare a [.Eq] [b] pos) (tCT X.K M A δ C (decide (i = j))) := t_cmp op_eq ha hb (rd_eq (.str i) (.str j) rfl dec_s)
theorem t_neS {i j : Str} (ha : PE X a (tC X.K M A δ B (.str i))) (hb : PE X b (tC X.K M B δ C (.str j))) : PT X (.Compare a [.NotEq] [b] pos) (tCT X.K M A δ C (!decide (i = j))) := t_cmp op_ne ha hb (rd_ne (.str i) (.str j) rfl (by rw [dec_s]))
theorem t_eqI {i j : Int} (ha : PE X a (tC X.K M A δ B (.int i))) (hb : PE X b (tC X.K M B δ C (.int j))) : PT X (.Compare a [.Eq] [b] pos) (tCT X.K M A δ C (decide (i = j))) := t_cmp op_eq ha hb (rd_eq (.int i) (.int j) rfl dec_i)
theorem t_neI {i j : Int} (ha : PE X a (tC X.K M A δ B (.int i))) (hb : PE X b (tC X.K M B δ C (.int j))) : PT X (.Compare a [.NotEq] [b] pos) (tCT X.K M A δ C (!decide (i = j))) := t_cmp op_ne ha hb (rd_ne (.int i) (.int j) rfl (by rw [dec_i]))
theorem t_eqX {v w : V} {k : Bool} (ha : PE X a (tC X.K M A δ B x)) (hb : PE X b (tC X.K M B δ C y)) (sx : Sc x v) (sy : Sc y w) (h : scal v w = true) (e : decide (v = w) = k) : PT X (.Compare a [.Eq] [b] pos) (tCT X.K M A δ C k) := t_cmp op_eq ha hb (rd_eq sx sy h e)
theorem t_isN {k : Bool} {j pos'} (ha : PE X a (tC X.K M A δ B x)) (h : ∀ (K : PySem.W.Frag) H v, Rp K M H v x → decide (v = .non) = k) : PT X (.Compare a [.Is] [.Constant .none j pos'] pos) (tCT X.K M A δ B k) :=
  t_cmp op_isN ha e_non fun H v w c t r1 r2 Q q => by
    cases r2
    exact ⟨rfl, by rw [h X.K H v r1]; exact q _ H (Same.refl H) (.bl k)⟩
theorem t_notN {k : Bool} {j pos'} (ha : PE X a (tC X.K M A δ B x)) (h : ∀ (K : PySem.W.Frag) H v, Rp K M H v x → decide (v = .non) = k) : PT X (.Compare a [.IsNot] [.Constant .none j pos'] pos) (tCT X.K M A δ B (!k)) :=
  t_cmp op_notN ha e_non fun H v w c t r1 r2 Q q => by
    cases r2
    exact ⟨rfl, by rw [h X.K H v r1]; exact q _ H (Same.refl H) (.bl _)⟩
/-! ### displays -/
theorem a_nil : PA X [] (tCA X.K M A δ A []) := pa_imp pa_nil fun σ H Q ⟨s, q⟩ => q _ H (Kp.refl H) s.a .nil
theorem a_cons {es : List Expr} {ds : List D} (h : PE X e (tC X.K M A δ B d)) (t : PA X es (tCA X.K M B δ C ds)) (hs : starEach (e :: es) X.env = (false, eval e X.env) :: starEach es X.env := by rfl) : PA X (e :: es) (tCA X.K M A δ C (d :: ds)) :=
  pa_imp (pa_cons h t hs) fun σ H Q ⟨s, q⟩ => ⟨s, fun v H1 k1 b1 r1 => ⟨s.kp k1 b1, fun vs H2 k2 c2 r2 => q _ H2 (k1.trans k2) c2 (.cons (r1.kp k2 d v) r2)⟩⟩
theorem e_tup {es : List Expr} {ds : List D} {j} (h : PA X es (tCA X.K M A δ B ds)) (hz : ds.length ≤ sizeLine := by first | decide | exact Nat.le_trans (Nat.le_of_ble_eq_true (rfl : Nat.ble _ 100 = true)) (by decide)) : PE X (.Tuple es j pos) (tC X.K M A δ B (.tup ds)) :=
  pe_imp (pe_tup h) fun σ H Q ⟨s, q⟩ => ⟨s, fun vs H1 k1 b1 r1 => ⟨by rw [r1.length]; exact hz, fun p hp => q _ _ (k1.trans (.new hp)) (B.mono (Same.new hp) b1) (.tup upd_same (Same.newK hp r1))⟩⟩
theorem e_lst {es : List Expr} {ds : List D} (h : PA X es (tCA X.K M A δ B ds)) (hz : ds.length ≤ sizeLine := by first | decide | exact Nat.le_trans (Nat.le_of_ble_eq_true (rfl : Nat.ble _ 100 = true)) (by decide)) : PE X (.List es pos) (tC X.K M A δ B (.lst ds)) :=
  pe_imp (pe_lst h) fun σ H Q ⟨s, q⟩ => ⟨s, fun vs H1 k1 b1 r1 => ⟨by rw [r1.length]; exact hz, fun p hp => q _ _ (k1.trans (.new hp)) (B.mono (Same.new hp) b1) (.lst upd_same (tr_new (fun m hm => k1.trk m (s.tr m hm)) hp) (Same.newK hp r1))⟩⟩

/-! ### items, slices -/
theorem RpL.atI {K : PySem.W.Frag} {H : Hp} {vs : List V} {ds : List D} {i : Int} (r : RpL K M H vs ds) (h : atI ds i = some d) : ∃ v, atI vs i = some v ∧ Rp K M H v d := by
  unfold L2.atI at h ⊢
  rw [r.length]
  cases e : ixN ds.length i with
  | none =>
    rw [e] at h
    cases h
  | some j =>
    rw [e] at h
    obtain ⟨v, e1, r1⟩ := r.get (i := j) h
    exact ⟨v, e1, r1⟩
theorem e_ixL {ds : List D} {i : Int} (ha : PE X a (tC X.K M A δ B (.lst ds))) (hb : PE X b (tC X.K M B δ C (.int i))) (h : atI ds i = some d) (hs : PlainIx b := by exact fun _ _ => rfl) : PE X (.Subscript a b pos) (tC X.K M A δ C d) :=
  e_ix ix_list ha hb (fun H v w c t r1 r2 Q q => by
    obtain ⟨p1, xs, rfl, h1, m1, l1⟩ := r1.lst_inv
    cases r2
    obtain ⟨u, e1, ru⟩ := l1.atI h
    exact ⟨p1, xs, i, u, rfl, rfl, SqL.of h1, e1, q _ H (Same.refl H) ru⟩) hs
theorem e_ixT {ds : List D} {i : Int} (ha : PE X a (tC X.K M A δ B (.tup ds))) (hb : PE X b (tC X.K M B δ C (.int i))) (h : atI ds i = some d) (hs : PlainIx b := by exact fun _ _ => rfl) : PE X (.Subscript a b pos) (tC X.K M A δ C d) :=
  e_ix ix_tup ha hb (fun H v w c t r1 r2 Q q => by
    obtain ⟨p1, xs, rfl, h1, l1⟩ := r1.tup_inv
    cases r2
    obtain ⟨u, e1, ru⟩ := l1.atI h
    exact ⟨p1, xs, i, u, rfl, rfl, h1, e1, q _ H (Same.refl H) ru⟩) hs
theorem e_ixS {z : Str} {i : Int} {c : Nat} (ha : PE X a (tC X.K M A δ B (.str z))) (hb : PE X b (tC X.K M B δ C (.int i))) (hz : z.length ≤ sizeLine) (h : atI z.cps.toList i = some c) (hs : PlainIx b := by exact fun _ _ => rfl) : PE X (.Subscript a b pos) (tC X.K M A δ C (.str ⟨#[c]⟩)) :=
  e_ix ix_str ha hb (fun H v w c' t r1 r2 Q q => by
    cases r1
    cases r2
    exact ⟨z, i, c, rfl, rfl, hz, h, q _ H (Same.refl H) (.str _)⟩) hs
/-- a part of a slice -/
def tCO (K : PySem.W.Frag) (M : AS) (A : As) (δ : LS) (B : As) (i : Option Int) : TO := fun σ H Q => St0 K M A δ σ H ∧ ∀ H', Kp M H H' → B.p H' → Q i H'
theorem po_imp {e : Option Expr} {t t' : TO} (h : PO X e t) (i : ∀ σ H Q, t' σ H Q → t σ H Q) : PO X e t' := ⟨fun pins s σ H Q I q => h.run pins s σ H Q I (i σ H Q q)⟩
theorem o_none : PO X none (tCO X.K M A δ A none) := po_imp po_none fun σ H Q ⟨s, q⟩ => q H (Kp.refl H) s.a
theorem o_some {i : Int} (h : PE X e (tC X.K M A δ B (.int i))) : PO X (some e) (tCO X.K M A δ B (some i)) := po_imp (po_some h) fun σ H Q ⟨s, q⟩ => ⟨s, fun v H1 k1 b1 r1 => by
  cases r1
  exact ⟨i, rfl, q H1 k1 b1⟩⟩
def cutD {α : Type} (xs : List α) (lo hi : Option Int) : List α := (xs.drop (HT.sIx xs.length 0 lo)).take (HT.sIx xs.length xs.length hi - HT.sIx xs.length 0 lo)
theorem RpL.cut {K : PySem.W.Frag} {H : Hp} {vs : List V} {ds : List D} (r : RpL K M H vs ds) (lo hi : Option Int) : RpL K M H (cutV vs lo hi) (cutD ds lo hi) := by
  unfold cutV cutD
  rw [r.length]
  exact (r.drop _).take _
theorem cutD_whole {α : Type} {xs : List α} {lo hi : Option Int} (h : HT.sIx xs.length 0 lo = 0 ∧ HT.sIx xs.length xs.length hi = xs.length) : cutD xs lo hi = xs := by
  unfold cutD
  rw [h.1, h.2, List.drop_zero, Nat.sub_zero, List.take_length]
theorem e_slT {ds : List D} {l u : Option Expr} {lo hi : Option Int} {p2} (he : PE X e (tC X.K M A δ B (.tup ds))) (hl : PO X l (tCO X.K M B δ C lo)) (hu : PO X u (tCO X.K M C δ G hi)) : PE X (.Subscript e (.Slice l u none p2) pos) (tC X.K M A δ G (.tup (cutD ds lo hi))) :=
  pe_imp (pe_slice sl_tupA he hl hu) fun σ H Q ⟨s, q⟩ => ⟨s, fun v H1 k1 b1 r1 => ⟨s.kp k1 b1, fun H2 k2 c2 => ⟨(s.kp k1 b1).kp k2 c2, fun H3 k3 g3 => by
    have r3 := r1.kp (k2.trans k3) _ v
    have r3' := r3
    have k13 := (k1.trans k2).trans k3
    obtain ⟨p1, xs, rfl, h1, l1⟩ := r3.tup_inv
    refine ⟨p1, xs, rfl, h1, fun w => ?_, fun _ p hp => q _ _ (k13.trans (.new hp)) (G.mono (Same.new hp) g3) (.tup upd_same (Same.newK hp (l1.cut lo hi)))⟩
    rw [l1.length] at w
    rw [cutD_whole w] at q
    exact q _ H3 k13 g3 r3'⟩⟩⟩
theorem e_slL {ds : List D} {l u : Option Expr} {lo hi : Option Int} {p2} (he : PE X e (tC X.K M A δ B (.lst ds))) (hl : PO X l (tCO X.K M B δ C lo)) (hu : PO X u (tCO X.K M C δ G hi)) : PE X (.Subscript e (.Slice l u none p2) pos) (tC X.K M A δ G (.lst (cutD ds lo hi))) :=
  pe_imp (pe_slice sl_list he hl hu) fun σ H Q ⟨s, q⟩ => ⟨s, fun v H1 k1 b1 r1 => ⟨s.kp k1 b1, fun H2 k2 c2 => ⟨(s.kp k1 b1).kp k2 c2, fun H3 k3 g3 => by
    have r3 := r1.kp (k2.trans k3) _ v
    have k13 := (k1.trans k2).trans k3
    obtain ⟨p1, xs, rfl, h1, m1, l1⟩ := r3.lst_inv
    exact ⟨p1, xs, rfl, SqL.of h1, fun p hp => q _ _ (k13.trans (.new hp)) (G.mono (Same.new hp) g3) (.lst upd_same (tr_new (fun m hm => k13.trk m (s.tr m hm)) hp) (Same.newK hp (l1.cut lo hi)))⟩⟩⟩⟩
theorem e_slS {z : Str} {l u : Option Expr} {lo hi : Option Int} {p2} (hz : z.length ≤ sizeLine) (he : PE X e (tC X.K M A δ B (.str z))) (hl : PO X l (tCO X.K M B δ C lo)) (hu : PO X u (tCO X.K M C δ G hi)) : PE X (.Subscript e (.Slice l u none p2) pos) (tC X.K M A δ G (.str (cutS z lo hi))) :=
  pe_imp (pe_slice sl_str he hl hu) fun σ H Q ⟨s, q⟩ => ⟨s, fun v H1 k1 b1 r1 => ⟨s.kp k1 b1, fun H2 k2 c2 => ⟨(s.kp k1 b1).kp k2 c2, fun H3 k3 g3 => by
    cases r1
    exact ⟨z, rfl, hz, q _ H3 ((k1.trans k2).trans k3) g3 (.str _)⟩⟩⟩⟩

/-! ### tests -/
theorem t_val {k : Bool} (h : PE X e (tC X.K M A δ B (.bl k))) (he : ∀ whole, isTrue e X.env whole = (do let v ← whole; standAt e.pos; holding [v] (truthy v)) := by intro _; rfl) : PT X e (tCT X.K M A δ B k) :=
  pt_imp (pt_val h he) fun σ H Q ⟨s, q⟩ => ⟨s, fun v H1 k1 b1 r1 => by
    cases r1
    exact ⟨k, rfl, q H1 k1 b1⟩⟩
theorem t_to {k : Bool} (h : PT X e (tCT X.K M A δ B k)) (i : ∀ H, B.p H → C.p H) : PT X e (tCT X.K M A δ C k) := pt_imp h fun σ H Q ⟨s, q⟩ => ⟨s, fun H' kk b => q H' kk (i H' b)⟩
theorem t_is {k k' : Bool} (h : PT X e (tCT X.K M A δ B k)) (i : k = k') : PT X e (tCT X.K M A δ B k') := i ▸ h
theorem t_not {k : Bool} (h : PT X e (tCT X.K M A δ B k)) : PT X (.UnaryOp .Not e pos) (tCT X.K M A δ B (!k)) := pt_imp (pt_not h) fun σ H Q ⟨s, q⟩ => ⟨s, fun H1 k1 b1 => q H1 k1 b1⟩
theorem w_and1 {k : Bool} (h : PT X e (tCT X.K M A δ B k)) : PW X (.BoolOp .And [e] pos) (tCT X.K M A δ B k) := pw_and1 h
theorem w_or1 {k : Bool} (h : PT X e (tCT X.K M A δ B k)) : PW X (.BoolOp .Or [e] pos) (tCT X.K M A δ B k) := pw_or1 h
theorem w_and {k j : Bool} {rest : List Expr} (ha : PT X a (tCT X.K M A δ B k)) (hb : k = true → PW X (.BoolOp .And (b :: rest) pos) (tCT X.K M B δ C j)) (hf : k = false → ∀ H, B.p H → C.p H) : PW X (.BoolOp .And (a :: b :: rest) pos) (tCT X.K M A δ C (k && j)) := by
  cases k with
  | true => exact pw_imp (pw_and ha (hb rfl)) fun σ H Q ⟨s, q⟩ => ⟨s, fun H1 k1 b1 => by
      refine iteT ?_
      exact ⟨s.kp k1 b1, fun H2 k2 c2 => q H2 (k1.trans k2) c2⟩⟩
  | false => exact pw_imp (pw_and ha pw_no) fun σ H Q ⟨s, q⟩ => ⟨s, fun H1 k1 b1 => by
      refine iteF ?_
      exact q H1 k1 (hf rfl H1 b1)⟩
theorem w_or {k j : Bool} {rest : List Expr} (ha : PT X a (tCT X.K M A δ B k)) (hb : k = false → PW X (.BoolOp .Or (b :: rest) pos) (tCT X.K M B δ C j)) (hf : k = true → ∀ H, B.p H → C.p H) : PW X (.BoolOp .Or (a :: b :: rest) pos) (tCT X.K M A δ C (k || j)) := by
  cases k with
  | false => exact pw_imp (pw_or ha (hb rfl)) fun σ H Q ⟨s, q⟩ => ⟨s, fun H1 k1 b1 => by
      refine iteF ?_
      exact ⟨s.kp k1 b1, fun H2 k2 c2 => q H2 (k1.trans k2) c2⟩⟩
  | true => exact pw_imp (pw_or ha pw_no) fun σ H Q ⟨s, q⟩ => ⟨s, fun H1 k1 b1 => by
      refine iteT ?_
      exact q H1 k1 (hf rfl H1 b1)⟩
/-- and, or of tests, the state as it was -/
theorem t_and {k j : Bool} (ha : PT X a (tCT X.K M A δ A k)) (hb : k = true → PT X b (tCT X.K M A δ A j)) : PT X (.BoolOp .And [a, b] pos) (tCT X.K M A δ A (k && j)) := (w_and ha (fun h => w_and1 (hb h)) fun _ _ h => h).pt
theorem t_or {k j : Bool} (ha : PT X a (tCT X.K M A δ A k)) (hb : k = false → PT X b (tCT X.K M A δ A j)) : PT X (.BoolOp .Or [a, b] pos) (tCT X.K M A δ A (k || j)) := (w_or ha (fun h => w_or1 (hb h)) fun _ _ h => h).pt
theorem e_not {k : Bool} (h : PE X e (tC X.K M A δ B (.bl k))) : PE X (.UnaryOp .Not e pos) (tC X.K M A δ B (.bl (!k))) := pe_imp (pe_not h) fun σ H Q ⟨s, q⟩ => ⟨s, fun v H1 k1 b1 r1 => by
  cases r1
  exact ⟨k, rfl, q _ H1 k1 b1 (.bl _)⟩⟩
theorem e_and {k : Bool} {rest : List Expr} (ha : PE X a (tC X.K M A δ B (.bl k))) (hb : k = true → PE X (.BoolOp .And (b :: rest) pos) (tC X.K M B δ C d)) (hf : k = false → d = .bl false ∧ ∀ H, B.p H → C.p H) : PE X (.BoolOp .And (a :: b :: rest) pos) (tC X.K M A δ C d) := by
  cases k with
  | true => exact pe_imp (pe_and ha (hb rfl)) fun σ H Q ⟨s, q⟩ => ⟨s, fun v H1 k1 b1 r1 => by
      cases r1
      refine ⟨true, rfl, ?_⟩
      refine iteT ?_
      exact ⟨s.kp k1 b1, fun v H2 k2 c2 r2 => q v H2 (k1.trans k2) c2 r2⟩⟩
  | false => exact pe_imp (pe_and ha pe_no) fun σ H Q ⟨s, q⟩ => ⟨s, fun v H1 k1 b1 r1 => by
      cases r1
      refine ⟨false, rfl, ?_⟩
      refine iteF ?_
      obtain ⟨rfl, i⟩ := hf rfl
      exact q _ H1 k1 (i H1 b1) (.bl _)⟩
theorem e_or {k : Bool} {rest : List Expr} (ha : PE X a (tC X.K M A δ B (.bl k))) (hb : k = false → PE X (.BoolOp .Or (b :: rest) pos) (tC X.K M B δ C d)) (hf : k = true → d = .bl true ∧ ∀ H, B.p H → C.p H) : PE X (.BoolOp .Or (a :: b :: rest) pos) (tC X.K M A δ C d) := by
  cases k with
  | false => exact pe_imp (pe_or ha (hb rfl)) fun σ H Q ⟨s, q⟩ => ⟨s, fun v H1 k1 b1 r1 => by
      cases r1
      refine ⟨false, rfl, ?_⟩
      refine iteF ?_
      exact ⟨s.kp k1 b1, fun v H2 k2 c2 r2 => q v H2 (k1.trans k2) c2 r2⟩⟩
  | true => exact pe_imp (pe_or ha pe_no) fun σ H Q ⟨s, q⟩ => ⟨s, fun v H1 k1 b1 r1 => by
      cases r1
      refine ⟨true, rfl, ?_⟩
      refine iteT ?_
      obtain ⟨rfl, i⟩ := hf rfl
      exact q _ H1 k1 (i H1 b1) (.bl _)⟩
theorem e_one {op} (h : PE X a (tC X.K M A δ B d)) : PE X (.BoolOp op [a] pos) (tC X.K M A δ B d) := pe_one h
theorem e_and2 {k j : Bool} (ha : PE X a (tC X.K M A δ A (.bl k))) (hb : k = true → PE X b (tC X.K M A δ A (.bl j))) : PE X (.BoolOp .And [a, b] pos) (tC X.K M A δ A (.bl (k && j))) :=
  e_and ha (fun h => e_one (by subst h; exact hb rfl)) fun h => ⟨by rw [h]; rfl, fun _ h => h⟩
theorem e_or2 {k j : Bool} (ha : PE X a (tC X.K M A δ A (.bl k))) (hb : k = false → PE X b (tC X.K M A δ A (.bl j))) : PE X (.BoolOp .Or [a, b] pos) (tC X.K M A δ A (.bl (k || j))) :=
  e_or ha (fun h => e_one (by subst h; exact hb rfl)) fun h => ⟨by rw [h]; rfl, fun _ h => h⟩
theorem e_ifx {c : Expr} {k : Bool} (hc : PT X c (tCT X.K M A δ B k)) (ha : k = true → PE X a (tC X.K M B δ C d)) (hb : k = false → PE X b (tC X.K M B δ C d)) : PE X (.IfExp c a b pos) (tC X.K M A δ C d) := by
  cases k with
  | true => exact pe_imp (pe_ifExp hc (ha rfl) pe_no) fun σ H Q ⟨s, q⟩ => ⟨s, fun H1 k1 b1 => by
      refine iteT ?_
      exact ⟨s.kp k1 b1, fun v H2 k2 c2 r2 => q v H2 (k1.trans k2) c2 r2⟩⟩
  | false => exact pe_imp (pe_ifExp hc pe_no (hb rfl)) fun σ H Q ⟨s, q⟩ => ⟨s, fun H1 k1 b1 => by
      refine iteF ?_
      exact ⟨s.kp k1 b1, fun v H2 k2 c2 r2 => q v H2 (k1.trans k2) c2 r2⟩⟩
end
end Dx
set_option Elab.async false
set_option linter.all false
set_option maxRecDepth 100000
set_option maxHeartbeats 4000000
namespace Dx
open PySem PySem.Spec PyProof.Rows L2

section
variable {X : Cx} {M : AS} {A B C G : As} {δ : LS} {pos p apos cpos : Pos} {x y z d : D} {a b e o : Expr}
/-! ### calls of built-ins -/
def RDc (K : PySem.W.Frag) (M : AS) (C : As) (r : List V → Hp → VK → Prop) (ds : List D) (d : D) : Prop := ∀ (H : Hp) (vs : List V), C.p H → Tr M H → RpL K M H vs ds → ∀ Q : VK, (∀ u H', Same H H' → Rp K M H' u d → Q u H') → r vs H Q
theorem tr_kp {H H' : Hp} (t : Tr M H) (k : Kp M H H') : Tr M H' := fun a m => k.trk a (t a m)
theorem e_callB {es : List Expr} {ds : List D} {n : Str} {id : String} {r : List V → Hp → VK → Prop} (hc : CallR X (.builtin id) r) (ha : PA X (e :: es) (tCA X.K M A δ B ds)) (hr : RDc X.K M B r ds d) (hm : X.mg n = none) (hv : bootBuiltins n = some (.builtin id) := by decide +kernel) (hg : Gl X n := by rfl)
    (hn : n ≠ "__name__" := by decide) (hdb : (n == ("__debug__" : Str)) = false := by decide) (he : starEach (e :: es) X.env = (false, eval e X.env) :: starEach es X.env := by rfl) (hpl : (backTo pos (starEach es X.env)).any (·.1) = false := by rfl) : PE X (.Call (.Name n p) (e :: es) [] pos) (tC X.K M A δ B d) :=
  pe_imp (pe_callB hc hg hm hv ha hn hdb he hpl) fun σ H Q ⟨s, q⟩ => ⟨s, fun vs H1 k1 b1 r1 => hr H1 vs b1 (tr_kp s.tr k1) r1 _ fun u H2 e2 r2 => q u H2 (k1.trans (.of_same e2)) (B.mono e2 b1) r2⟩
theorem e_callTy {es : List Expr} {ds : List D} {n : Str} {T : String} {r : List V → Hp → VK → Prop} (hc : CallR X (.type T) r) (ha : PA X (e :: es) (tCA X.K M A δ B ds)) (hr : RDc X.K M B r ds d) (hm : X.mg n = none) (hv : bootBuiltins n = some (.type T) := by decide +kernel) (hg : Gl X n := by rfl)
    (hn : n ≠ "__name__" := by decide) (hdb : (n == ("__debug__" : Str)) = false := by decide) (he : starEach (e :: es) X.env = (false, eval e X.env) :: starEach es X.env := by rfl) (hpl : (backTo pos (starEach es X.env)).any (·.1) = false := by rfl) : PE X (.Call (.Name n p) (e :: es) [] pos) (tC X.K M A δ B d) :=
  pe_imp (pe_callTy hc hg hm hv ha hn hdb he hpl) fun σ H Q ⟨s, q⟩ => ⟨s, fun vs H1 k1 b1 r1 => hr H1 vs b1 (tr_kp s.tr k1) r1 _ fun u H2 e2 r2 => q u H2 (k1.trans (.of_same e2)) (B.mono e2 b1) r2⟩
theorem a_one (h : PE X e (tC X.K M A δ B d)) (hs : starEach (e :: []) X.env = (false, eval e X.env) :: starEach [] X.env := by rfl) : PA X [e] (tCA X.K M A δ B [d]) := a_cons h a_nil hs
/-- len of a list, a tuple, a text -/
def lenD : D → Nat
  | .lst ds => ds.length
  | .tup ds => ds.length
  | .str z => z.length
  | _ => 0
theorem rc_lenL {K : PySem.W.Frag} {ds : List D} : RDc K M C (fun xs H Q => ∃ x n, xs = [x] ∧ LenV K x H n ∧ Q (.int n) H) [.lst ds] (.int ds.length) := fun H vs c t r Q q => by
  cases r with
  | cons r1 r2 =>
    cases r2
    obtain ⟨a, xs, rfl, h1, m1, l1⟩ := r1.lst_inv
    exact ⟨_, ds.length, rfl, .inl ⟨xs, SqL.of h1, l1.length.symm⟩, q _ H (Same.refl H) (.int _)⟩
theorem rc_lenT {K : PySem.W.Frag} {ds : List D} : RDc K M C (fun xs H Q => ∃ x n, xs = [x] ∧ LenV K x H n ∧ Q (.int n) H) [.tup ds] (.int ds.length) := fun H vs c t r Q q => by
  cases r with
  | cons r1 r2 =>
    cases r2
    obtain ⟨a, xs, rfl, h1, l1⟩ := r1.tup_inv
    exact ⟨_, ds.length, rfl, .inr ⟨xs, h1, l1.length.symm⟩, q _ H (Same.refl H) (.int _)⟩
theorem rc_lenS {K : PySem.W.Frag} {z : Str} (hz : z.length ≤ sizeLine) : RDc K M C (fun xs H Q => ∃ x n, xs = [x] ∧ LenV K x H n ∧ Q (.int n) H) [.str z] (.int z.length) := fun H vs c t r Q q => by
  cases r with
  | cons r1 r2 =>
    cases r2
    cases r1
    exact ⟨_, z.length, rfl, ⟨hz, rfl⟩, q _ H (Same.refl H) (.int _)⟩
theorem e_lenL {ds : List D} (hm : X.mg "len" = none) (h : PE X e (tC X.K M A δ B (.lst ds))) (hg : Gl X "len" := by rfl) (hs : starEach (e :: []) X.env = (false, eval e X.env) :: starEach [] X.env := by rfl) (hpl : (backTo pos (starEach [] X.env)).any (·.1) = false := by rfl) : PE X (.Call (.Name "len" p) [e] [] pos) (tC X.K M A δ B (.int ds.length)) :=
  e_callB call_len (a_one h hs) rc_lenL hm PySem.boot_len hg (by decide) (by decide) hs hpl
theorem e_lenT {ds : List D} (hm : X.mg "len" = none) (h : PE X e (tC X.K M A δ B (.tup ds))) (hg : Gl X "len" := by rfl) (hs : starEach (e :: []) X.env = (false, eval e X.env) :: starEach [] X.env := by rfl) (hpl : (backTo pos (starEach [] X.env)).any (·.1) = false := by rfl) : PE X (.Call (.Name "len" p) [e] [] pos) (tC X.K M A δ B (.int ds.length)) :=
  e_callB call_len (a_one h hs) rc_lenT hm PySem.boot_len hg (by decide) (by decide) hs hpl
theorem e_lenS {z : Str} (hz : z.length ≤ sizeLine) (hm : X.mg "len" = none) (h : PE X e (tC X.K M A δ B (.str z))) (hg : Gl X "len" := by rfl) (hs : starEach (e :: []) X.env = (false, eval e X.env) :: starEach [] X.env := by rfl) (hpl : (backTo pos (starEach [] X.env)).any (·.1) = false := by rfl) : PE X (.Call (.Name "len" p) [e] [] pos) (tC X.K M A δ B (.int z.length)) :=
  e_callB call_len (a_one h hs) (rc_lenS hz) hm PySem.boot_len hg (by decide) (by decide) hs hpl
/-- list(a list), list(a tuple); tuple(a list), tuple(a tuple) -/
theorem rc_listL {K : PySem.W.Frag} {ds : List D} : RDc K M C (fun xs H Q => ∃ p ys, xs = [.ref p] ∧ (SqL K H p ys ∨ SqT K H p ys) ∧ ∀ l, H l = none → Q (.ref l) (upd H l (.lst ys))) [.lst ds] (.lst ds) := fun H vs c t r Q q => by
  cases r with
  | cons r1 r2 =>
    cases r2
    obtain ⟨a, xs, rfl, h1, m1, l1⟩ := r1.lst_inv
    exact ⟨_, xs, rfl, .inl (SqL.of h1), fun l hl => q _ _ (Same.new hl) (.lst upd_same (tr_new t hl) (Same.newK hl l1))⟩
theorem rc_listT {K : PySem.W.Frag} {ds : List D} : RDc K M C (fun xs H Q => ∃ p ys, xs = [.ref p] ∧ (SqL K H p ys ∨ SqT K H p ys) ∧ ∀ l, H l = none → Q (.ref l) (upd H l (.lst ys))) [.tup ds] (.lst ds) := fun H vs c t r Q q => by
  cases r with
  | cons r1 r2 =>
    cases r2
    obtain ⟨a, xs, rfl, h1, l1⟩ := r1.tup_inv
    exact ⟨_, xs, rfl, .inr h1, fun l hl => q _ _ (Same.new hl) (.lst upd_same (tr_new t hl) (Same.newK hl l1))⟩
theorem rc_tupL {K : PySem.W.Frag} {ds : List D} : RDc K M C (fun xs H Q => ∃ p ys, xs = [.ref p] ∧ ((SqL K H p ys ∧ ∀ l, H l = none → Q (.ref l) (upd H l (.tup ys))) ∨ (SqT K H p ys ∧ Q (.ref p) H))) [.lst ds] (.tup ds) := fun H vs c t r Q q => by
  cases r with
  | cons r1 r2 =>
    cases r2
    obtain ⟨a, xs, rfl, h1, m1, l1⟩ := r1.lst_inv
    exact ⟨_, xs, rfl, .inl ⟨SqL.of h1, fun l hl => q _ _ (Same.new hl) (.tup upd_same (Same.newK hl l1))⟩⟩
theorem rc_max2 {K : PySem.W.Frag} {i j : Int} : RDc K M C (fun xs H Q => ∃ i j, xs = [.int i, .int j] ∧ Q (.int (if j > i then j else i)) H) [.int i, .int j] (.int (if j > i then j else i)) := fun H vs c t r Q q => by
  cases r with
  | cons r1 r2 =>
    cases r2 with
    | cons r2 r3 =>
      cases r3
      cases r1
      cases r2
      exact ⟨i, j, rfl, q _ H (Same.refl H) (.int _)⟩
theorem rc_any {K : PySem.W.Frag} {bs : List Bool} : RDc K M C (rAny K) [.lst (bs.map D.bl)] (.bl (bs.any id)) := fun H vs c t r Q q => by
  cases r with
  | cons r1 r2 =>
    cases r2
    obtain ⟨a, xs, rfl, h1, m1, l1⟩ := r1.lst_inv
    rw [l1.bls_inv] at h1
    exact ⟨a, bs, rfl, SqL.of h1, q _ H (Same.refl H) (.bl _)⟩
theorem rc_all {K : PySem.W.Frag} {bs : List Bool} : RDc K M C (rAll K) [.lst (bs.map D.bl)] (.bl (bs.all id)) := fun H vs c t r Q q => by
  cases r with
  | cons r1 r2 =>
    cases r2
    obtain ⟨a, xs, rfl, h1, m1, l1⟩ := r1.lst_inv
    rw [l1.bls_inv] at h1
    exact ⟨a, bs, rfl, SqL.of h1, q _ H (Same.refl H) (.bl _)⟩
/-! ### x in a list, a tuple of texts -/
theorem inV_strs (w : Str) : ∀ xs : List Str, inV (.str w) (xs.map V.str) = decide (w ∈ xs)
  | [] => by simp [inV]
  | x :: xs => by
    have ih := inV_strs w xs
    have e : eqV (.str x) (.str w) = decide (w = x) := by
      show (x == w) = decide (w = x)
      by_cases h : w = x
      · subst h; simp
      · rw [decide_eq_false h]
        exact beq_eq_false_iff_ne.mpr fun q => h q.symm
    show (eqV (.str x) (.str w) || inV (.str w) (xs.map V.str)) = decide (w ∈ x :: xs)
    rw [e, ih]
    by_cases h : w = x <;> by_cases k : w ∈ xs <;> simp [h, k]
theorem flat_strs (xs : List Str) : (xs.map V.str).all flatV = true := by
  rw [List.all_map]
  exact List.all_eq_true.mpr fun _ _ => rfl
theorem rd_inL {K : PySem.W.Frag} {w : Str} {xs : List Str} : RD K M C (rIn K false) (.str w) (.lst (xs.map D.str)) (.bl (decide (w ∈ xs))) := fun H v u c t r1 r2 Q q => by
  cases r1
  obtain ⟨a, ys, rfl, h1, m1, l1⟩ := r2.lst_inv
  rw [l1.strs_inv] at h1
  exact ⟨a, _, rfl, .inl (SqL.of h1), rfl, flat_strs xs, by rw [inV_strs]; exact q _ H (Same.refl H) (.bl _)⟩
theorem rd_inT {K : PySem.W.Frag} {w : Str} {xs : List Str} : RD K M C (rIn K false) (.str w) (.tup (xs.map D.str)) (.bl (decide (w ∈ xs))) := fun H v u c t r1 r2 Q q => by
  cases r1
  obtain ⟨a, ys, rfl, h1, l1⟩ := r2.tup_inv
  rw [l1.strs_inv] at h1
  exact ⟨a, _, rfl, .inr h1, rfl, flat_strs xs, by rw [inV_strs]; exact q _ H (Same.refl H) (.bl _)⟩

/-! ### calls of defs -/
variable {CX : CXT} {k : Nat} {f : Addr} {fd : FuncData} {ps : List Str} {sp : Sp}
/-- what a caller shows of a callee's promise -/
def SpOk (K : PySem.W.Frag) (M : AS) (sp : Sp) (B : As) (ds : List D) (C : As) (d : D) : Prop := ∀ (H : Hp) (vs : List V) (Q : VK), B.p H → Tr M H → RpL K M H vs ds → (∀ v H', Kp M H H' → C.p H' → Rp K M H' v d → Q v H') → sp vs H Q E0
theorem e_call {es : List Expr} {ds : List D} {n : Str} (F : FnOk X.prog X.w X.K X.mg X.base CX0 k f fd ps sp) (hr : Room k X.A) (hm : X.mg n = some (.ref f)) (hk : PySem.W.keepIn X.K (.ref f) = true) (hb : Binds X.K fd ps []) (ha : PA X (e :: es) (tCA X.K M A δ B ds)) (h : SpOk X.K M sp B ds C d)
    (hg : Gl X n := by rfl) (hdb : (n == ("__debug__" : Str)) = false := by decide) (he : starEach (e :: es) X.env = (false, eval e X.env) :: starEach es X.env := by rfl) (hpl : (backTo pos (starEach es X.env)).any (·.1) = false := by rfl) : PE X (.Call (.Name n p) (e :: es) [] pos) (tC X.K M A δ C d) :=
  pe_imp (pe_call F hr hg hm hk hb .nil pass0 ha hdb he hpl) fun σ H Q ⟨s, q⟩ => ⟨s, fun vs H1 k1 b1 r1 => by
    show sp (vs ++ []) H1 Q E0
    rw [List.append_nil]
    exact h H1 vs Q b1 (tr_kp s.tr k1) r1 fun v H2 k2 c2 r2 => q v H2 (k1.trans k2) c2 r2⟩
theorem e_meth {es : List Expr} {ds : List D} {m : Str} {Cl q : Addr} {pl : Sem Bool} (cl : Cls X.K Cl) (hm : Meth X.K Cl m f) (F : FnOk X.prog X.w X.K X.mg X.base CX0 k f fd ps sp) (hr : Room k X.A) (hb : Binds X.K fd ps []) (ho : PE X o (tC X.K M A δ B (.ref q)))
    (hi : ∀ H, B.p H → ∃ dx fs, H q = some (.ins Cl dx fs) ∧ fs.lookup m = none) (ha : PA X (e :: es) (tCA X.K M B δ C ds)) (h : SpOk X.K M sp C (.ref q :: ds) G d)
    (hst : starEach (e :: es) X.env = (false, eval e X.env) :: starEach es X.env := by rfl) (hpl : (backTo pos (starEach es X.env)).any (·.1) = false := by rfl)
    (ht : eval (.Call (.Attribute o m apos) (e :: es) [] pos) X.env = (do
      let ov ← eval o X.env
      standAt apos.atName
      let (f, first) ← holding [ov] (getMethod ov m pl)
      callWith pos f first (backTo pos (starEach (e :: es) X.env)) (backToKw pos (keywordEach [] X.env))) := by rfl) : PE X (.Call (.Attribute o m apos) (e :: es) [] pos) (tC X.K M A δ G d) :=
  pe_imp (pe_meth ho cl hm F hr hb .nil pass0 ha hst hpl ht) fun σ H Q ⟨s, q⟩ => ⟨s, fun v H1 k1 b1 r1 => by
    cases r1
    obtain ⟨dx, fs, e1, e2⟩ := hi H1 b1
    refine ⟨_, dx, fs, rfl, e1, e2, s.kp k1 b1, fun vs H2 k2 c2 r2 => ?_⟩
    show sp (_ :: (vs ++ [])) H2 Q E0
    rw [List.append_nil]
    exact h H2 _ Q c2 (tr_kp s.tr (k1.trans k2)) (.cons (.ref _) r2) fun v H3 k3 c3 r3 => q v H3 ((k1.trans k2).trans k3) c3 r3⟩
theorem e_meth0 {m : Str} {Cl q : Addr} {pl : Sem Bool} (cl : Cls X.K Cl) (hm : Meth X.K Cl m f) (F : FnOk X.prog X.w X.K X.mg X.base CX0 k f fd ps sp) (hr : Room k X.A) (hb : Binds X.K fd ps []) (ho : PE X o (tC X.K M A δ B (.ref q)))
    (hi : ∀ H, B.p H → ∃ dx fs, H q = some (.ins Cl dx fs) ∧ fs.lookup m = none) (h : SpOk X.K M sp B [.ref q] G d)
    (ht : eval (.Call (.Attribute o m apos) [] [] pos) X.env = (do
      let ov ← eval o X.env
      standAt apos.atName
      let (f, first) ← holding [ov] (getMethod ov m pl)
      callWith pos f first (backTo pos (starEach [] X.env)) (backToKw pos (keywordEach [] X.env))) := by rfl) : PE X (.Call (.Attribute o m apos) [] [] pos) (tC X.K M A δ G d) :=
  pe_imp (pe_meth0 ho cl hm F hr hb .nil pass0 ht) fun σ H Q ⟨s, q⟩ => ⟨s, fun v H1 k1 b1 r1 => by
    cases r1
    obtain ⟨dx, fs, e1, e2⟩ := hi H1 b1
    refine ⟨_, dx, fs, rfl, e1, e2, ?_⟩
    exact h H1 _ Q b1 (tr_kp s.tr k1) (.cons (.ref _) .nil) fun v H3 k3 c3 r3 => q v H3 (k1.trans k3) c3 r3⟩
/-- e.f, a property -/
theorem e_prop {Cl q pr : Addr} {n : Str} (cl : Cls X.K Cl) (hp : PropOf X.K Cl n pr f) (F : FnOk X.prog X.w X.K X.mg X.base CX0 k f fd ps sp) (hr : Room (k + 1) X.A) (hb : Binds X.K fd ps []) (ho : PE X e (tC X.K M A δ B (.ref q))) (hi : ∀ H, B.p H → ∃ dx fs, H q = some (.ins Cl dx fs))
    (h : SpOk X.K M sp B [.ref q] C d) (hab : attributeBase e n X.env (eval e X.env) = eval e X.env := by rfl) : PE X (.Attribute e n pos) (tC X.K M A δ C d) :=
  pe_imp (pe_prop ho cl hp F hr hb .nil pass0 hab) fun σ H Q ⟨s, q⟩ => ⟨s, fun v H1 k1 b1 r1 => by
    cases r1
    obtain ⟨dx, fs, e1⟩ := hi H1 b1
    exact ⟨_, dx, fs, rfl, e1, h H1 _ Q b1 (tr_kp s.tr k1) (.cons (.ref _) .nil) fun v H3 k3 c3 r3 => q v H3 (k1.trans k3) c3 r3⟩⟩
/-- e.f, a field -/
theorem e_fld {q : Addr} {n : Str} (ho : PE X e (tC X.K M A δ B (.ref q))) (hi : ∀ H, B.p H → ∃ Cl dx fs v, H q = some (.ins Cl dx fs) ∧ Cls X.K Cl ∧ NoAttr X.K Cl n ∧ fs.lookup n = some v ∧ Rp X.K M H v d)
    (hab : attributeBase e n X.env (eval e X.env) = eval e X.env := by rfl) : PE X (.Attribute e n pos) (tC X.K M A δ B d) :=
  pe_imp (pe_fld ho hab) fun σ H Q ⟨s, q⟩ => ⟨s, fun v H1 k1 b1 r1 => by
    cases r1
    obtain ⟨Cl, dx, fs, v, e1, e2, e3, e4, e5⟩ := hi H1 b1
    exact ⟨_, Cl, dx, fs, v, rfl, e1, e2, e3, e4, q v H1 k1 b1 e5⟩⟩
/-! ### dicts with text keys -/
theorem e_dget {q : Addr} {n : Str} (hu : X.A.units + 1 < cLine) (ho : PE X o (tC X.K M A δ B (.ref q))) (hk : PE X e (tC X.K M B δ C (.str n))) (h : ∀ H, C.p H → ∃ kvs v, H q = some (.dK kvs) ∧ valV kvs (Sum.inr n) = some v ∧ Rp X.K M H v d) (hs : NoSl e := by exact fun _ _ => rfl) : PE X (.Subscript o e pos) (tC X.K M A δ C d) :=
  pe_imp (pe_dget hu ho hk hs) fun σ H Q ⟨s, q⟩ => ⟨s, fun v H1 k1 b1 r1 => ⟨s.kp k1 b1, fun w H2 k2 c2 r2 => by
    cases r1
    cases r2
    obtain ⟨kvs, v, e1, e2, e3⟩ := h H2 c2
    exact ⟨_, v, rfl, by rw [← e2]; exact DGet.k (k := Sum.inr n) e1, q v H2 (k1.trans k2) c2 e3⟩⟩⟩
theorem e_inD {q : Addr} {n : Str} {j : Bool} (hu : X.A.units + 1 < cLine) (hk : PE X e (tC X.K M A δ B (.str n))) (ho : PE X o (tC X.K M B δ C (.ref q))) (h : ∀ H, C.p H → ∃ kvs, H q = some (.dK kvs) ∧ (valV kvs (Sum.inr n)).isSome = j) (h1 : behindInMarks .In o = false := by rfl) : PE X (.Compare e [.In] [o] pos) (tC X.K M A δ C (.bl j)) :=
  pe_imp (pe_cmp (pc_din hu hk ho) h1) fun σ H Q ⟨s, q⟩ => ⟨s, fun v H1 k1 b1 r1 => ⟨s.kp k1 b1, fun w H2 k2 c2 r2 => by
    cases r1
    cases r2
    obtain ⟨kvs, e1, e2⟩ := h H2 c2
    exact ⟨_, _, rfl, DGet.k (k := Sum.inr n) e1, by rw [e2]; exact q _ H2 (k1.trans k2) c2 (.bl _)⟩⟩⟩
theorem e_notInD {q : Addr} {n : Str} {j : Bool} (hu : X.A.units + 1 < cLine) (hk : PE X e (tC X.K M A δ B (.str n))) (ho : PE X o (tC X.K M B δ C (.ref q))) (h : ∀ H, C.p H → ∃ kvs, H q = some (.dK kvs) ∧ (valV kvs (Sum.inr n)).isSome = j) (h1 : behindInMarks .NotIn o = false := by rfl) : PE X (.Compare e [.NotIn] [o] pos) (tC X.K M A δ C (.bl (!j))) :=
  pe_imp (pe_cmp (pc_dnotin hu hk ho) h1) fun σ H Q ⟨s, q⟩ => ⟨s, fun v H1 k1 b1 r1 => ⟨s.kp k1 b1, fun w H2 k2 c2 r2 => by
    cases r1
    cases r2
    obtain ⟨kvs, e1, e2⟩ := h H2 c2
    exact ⟨_, _, rfl, DGet.k (k := Sum.inr n) e1, by rw [e2]; exact q _ H2 (k1.trans k2) c2 (.bl _)⟩⟩⟩
theorem t_inD {q : Addr} {n : Str} {j : Bool} (hu : X.A.units + 1 < cLine) (hk : PE X e (tC X.K M A δ B (.str n))) (ho : PE X o (tC X.K M B δ C (.ref q))) (h : ∀ H, C.p H → ∃ kvs, H q = some (.dK kvs) ∧ (valV kvs (Sum.inr n)).isSome = j) (h1 : behindInMarks .In o = false := by rfl) : PT X (.Compare e [.In] [o] pos) (tCT X.K M A δ C j) :=
  pt_imp (pt_cmp (pc_din hu hk ho) h1) fun σ H Q ⟨s, q⟩ => ⟨s, fun v H1 k1 b1 r1 => ⟨s.kp k1 b1, fun w H2 k2 c2 r2 => by
    cases r1
    cases r2
    obtain ⟨kvs, e1, e2⟩ := h H2 c2
    exact ⟨_, _, rfl, DGet.k (k := Sum.inr n) e1, j, by rw [e2], q H2 (k1.trans k2) c2⟩⟩⟩
theorem t_notInD {q : Addr} {n : Str} {j : Bool} (hu : X.A.units + 1 < cLine) (hk : PE X e (tC X.K M A δ B (.str n))) (ho : PE X o (tC X.K M B δ C (.ref q))) (h : ∀ H, C.p H → ∃ kvs, H q = some (.dK kvs) ∧ (valV kvs (Sum.inr n)).isSome = j) (h1 : behindInMarks .NotIn o = false := by rfl) : PT X (.Compare e [.NotIn] [o] pos) (tCT X.K M A δ C (!j)) :=
  pt_imp (pt_cmp (pc_dnotin hu hk ho) h1) fun σ H Q ⟨s, q⟩ => ⟨s, fun v H1 k1 b1 r1 => ⟨s.kp k1 b1, fun w H2 k2 c2 r2 => by
    cases r1
    cases r2
    obtain ⟨kvs, e1, e2⟩ := h H2 c2
    exact ⟨_, _, rfl, DGet.k (k := Sum.inr n) e1, !j, by rw [e2], q H2 (k1.trans k2) c2⟩⟩⟩
/-! ### methods of built-in types -/
theorem e_bm {es : List Expr} {ds : List D} {T id : String} {name : Str} {r : V → List V → Hp → VK → Prop} (pa : PlainAttrs T) (slot : Slot T name id) (hty : typeOf (.builtin id) = pure (.type "method_descriptor")) (hm : MtR X id r) (ho : PE X o (tC X.K M A δ B x)) (ha : PA X (e :: es) (tCA X.K M B δ C ds))
    (hT : ∀ H v, B.p H → Rp X.K M H v x → tyV X.K T v H) (hr : ∀ H v vs, C.p H → Tr M H → Rp X.K M H v x → RpL X.K M H vs ds → ∀ Q : VK, (∀ u H', Kp M H H' → G.p H' → Rp X.K M H' u d → Q u H') → r v vs H Q)
    (hbase : attributeBase o name X.env (eval o X.env) = eval o X.env := by rfl)
    (hfew : ((backTo cpos (starEach (e :: es) X.env)).all (fun x => !x.1) && (backToKw cpos (keywordEach [] X.env)).all (fun x => x.1.isSome)
      && decide ((e :: es).length + ([] : List Keyword).length + (if ([] : List Keyword).isEmpty then 0 else 1) < 30)) = true := by rfl)
    (hline : (apos.endLine == cpos.line) = true := by rfl) (hs : starEach (e :: es) X.env = (false, eval e X.env) :: starEach es X.env := by rfl) (hplain : (backTo cpos (starEach es X.env)).any (·.1) = false := by rfl) :
    PE X (.Call (.Attribute o name apos) (e :: es) [] cpos) (tC X.K M A δ G d) :=
  pe_imp (pe_bm pa slot hty hm ho ha hbase hfew hline hs hplain) fun σ H Q ⟨s, q⟩ => ⟨s, fun v H1 k1 b1 r1 => ⟨hT H1 v b1 r1, s.kp k1 b1, fun vs H2 k2 c2 r2 => hr H2 v vs c2 (tr_kp s.tr (k1.trans k2)) (r1.kp k2 x v) r2 _ fun u H3 k3 g3 r3 => q u H3 ((k1.trans k2).trans k3) g3 r3⟩⟩
theorem e_bm0 {T id : String} {name : Str} {r : V → List V → Hp → VK → Prop} (pa : PlainAttrs T) (slot : Slot T name id) (hty : typeOf (.builtin id) = pure (.type "method_descriptor")) (hm : MtR X id r) (ho : PE X o (tC X.K M A δ B x))
    (hT : ∀ H v, B.p H → Rp X.K M H v x → tyV X.K T v H) (hr : ∀ H v, B.p H → Tr M H → Rp X.K M H v x → ∀ Q : VK, (∀ u H', Kp M H H' → G.p H' → Rp X.K M H' u d → Q u H') → r v [] H Q)
    (hbase : attributeBase o name X.env (eval o X.env) = eval o X.env := by rfl) (hline : (apos.endLine == cpos.line) = true := by rfl) : PE X (.Call (.Attribute o name apos) [] [] cpos) (tC X.K M A δ G d) :=
  pe_imp (pe_bm0 pa slot hty hm ho hbase hline) fun σ H Q ⟨s, q⟩ => ⟨s, fun v H1 k1 b1 r1 => ⟨hT H1 v b1 r1, hr H1 v b1 (tr_kp s.tr k1) r1 _ fun u H3 k3 g3 r3 => q u H3 (k1.trans k3) g3 r3⟩⟩
theorem ty_str {K : PySem.W.Frag} {H : Hp} {v : V} {z : Str} (r : Rp K M H v (.str z)) : tyV K "str" v H := by
  cases r
  rfl
theorem ty_lst {K : PySem.W.Frag} {H : Hp} {v : V} {ds : List D} (r : Rp K M H v (.lst ds)) : tyV K "list" v H := by
  obtain ⟨a, xs, rfl, h1, m1, l1⟩ := r.lst_inv
  exact .inl ⟨rfl, xs, SqL.of h1⟩
theorem e_split {z w : Str} (ho : PE X o (tC X.K M A δ B (.str z))) (he : PE X e (tC X.K M B δ C (.str w))) (hw : (w.length == 0) = false) (hz : z.length + 2 ≤ sizeLine) (hs : starEach [e] X.env = [(false, eval e X.env)] := by rfl) (hbase : attributeBase o "split" X.env (eval o X.env) = eval o X.env := by rfl) (hline : (apos.endLine == pos.line) = true := by rfl) :
    PE X (.Call (.Attribute o "split" apos) [e] [] pos) (tC X.K M A δ C (.lst ((Txt.split z w).map D.str))) :=
  pe_imp (pe_split ho he hs hbase hline) fun σ H Q ⟨s, q⟩ => ⟨s, fun v H1 k1 b1 r1 => by
    cases r1
    refine ⟨⟨z, rfl⟩, s.kp k1 b1, fun w' H2 k2 c2 r2 => ?_⟩
    cases r2
    exact ⟨z, w, rfl, rfl, hw, hz, fun p hp => q _ _ ((k1.trans k2).trans (.new hp)) (C.mono (Same.new hp) c2) (.lst upd_same (tr_new (tr_kp s.tr (k1.trans k2)) hp) (RpL.strs _))⟩⟩
theorem e_partition {z w : Str} (ho : PE X o (tC X.K M A δ B (.str z))) (he : PE X e (tC X.K M B δ C (.str w))) (hw : (w.length == 0) = false) (hz : z.length ≤ sizeLine) (hs : starEach [e] X.env = [(false, eval e X.env)] := by rfl) (hbase : attributeBase o "partition" X.env (eval o X.env) = eval o X.env := by rfl) (hline : (apos.endLine == pos.line) = true := by rfl) :
    PE X (.Call (.Attribute o "partition" apos) [e] [] pos) (tC X.K M A δ C (.tup [.str (Txt.partition z w).1, .str (Txt.partition z w).2.1, .str (Txt.partition z w).2.2])) :=
  pe_imp (pe_partition ho he hs hbase hline) fun σ H Q ⟨s, q⟩ => ⟨s, fun v H1 k1 b1 r1 => by
    cases r1
    refine ⟨⟨z, rfl⟩, s.kp k1 b1, fun w' H2 k2 c2 r2 => ?_⟩
    cases r2
    exact ⟨z, w, rfl, rfl, hw, hz, fun p hp => q _ _ ((k1.trans k2).trans (.new hp)) (C.mono (Same.new hp) c2) (.tup upd_same (.cons (.str _) (.cons (.str _) (.cons (.str _) .nil))))⟩⟩
theorem e_join {z : Str} {ys : List Str} (ho : PE X o (tC X.K M A δ B (.str z))) (he : PE X e (tC X.K M B δ C (.lst (ys.map D.str)))) (hz : (ys.map (·.length)).sum + ys.length * z.length ≤ 16777216) (hs : starEach [e] X.env = [(false, eval e X.env)] := by rfl) (hbase : attributeBase o "join" X.env (eval o X.env) = eval o X.env := by rfl) (hline : (apos.endLine == pos.line) = true := by rfl) :
    PE X (.Call (.Attribute o "join" apos) [e] [] pos) (tC X.K M A δ C (.str (Txt.join z ys))) :=
  pe_imp (pe_join ho he hs hbase hline) fun σ H Q ⟨s, q⟩ => ⟨s, fun v H1 k1 b1 r1 => by
    cases r1
    refine ⟨⟨z, rfl⟩, s.kp k1 b1, fun w' H2 k2 c2 r2 => ?_⟩
    obtain ⟨a, xs, rfl, h1, m1, l1⟩ := r2.lst_inv
    rw [l1.strs_inv] at h1
    exact ⟨z, a, ys, rfl, rfl, .inl (SqL.of h1), hz, q _ H2 (k1.trans k2) c2 (.str _)⟩⟩
end
end Dx
set_option Elab.async false
set_option linter.all false
set_option maxRecDepth 100000
set_option maxHeartbeats 4000000
namespace Dx
open PySem PySem.Spec PyProof.Rows L2

/-! ### targets -/
/-- g puts the data d into the slots: δ becomes f d δ; only the slots in js are written -/
def TgOk (K : PySem.W.Frag) (g : TG) (js : List Nat) (f : D → LS → Option LS) : Prop := ∀ (M : AS) (v : V) (d : D) (δ δ' : LS) (σ : L2.St) (H : Hp) (Q : L2.St → Hp → Prop), f d δ = some δ' → Rp K M H v d → RelS K M H σ δ →
  (∀ σ', RelS K M H σ' δ' → (∀ vs : List Nat, (∀ j ∈ js, j ∈ vs) → L2.wipe σ' vs = L2.wipe σ vs) → Q σ' H) → g v σ H Q
def fOne (j : Nat) : D → LS → Option LS := fun d δ => some (δ.set j (some d))
theorem tg_name {K : PySem.W.Frag} (j : Nat) : TgOk K (gName j) [j] (fOne j) := fun M v d δ δ' σ H Q e r s q => by
  cases e
  exact q _ (s.set j r) fun vs h => wipe_set (h j (by simp))
def TgsOk (K : PySem.W.Frag) (g : TGs) (js : List Nat) (f : List D → LS → Option LS) : Prop := ∀ (M : AS) (vs : List V) (ds : List D) (δ δ' : LS) (σ : L2.St) (H : Hp) (Q : L2.St → Hp → Prop), f ds δ = some δ' → RpL K M H vs ds → RelS K M H σ δ →
  (∀ σ', RelS K M H σ' δ' → (∀ vs : List Nat, (∀ j ∈ js, j ∈ vs) → L2.wipe σ' vs = L2.wipe σ vs) → Q σ' H) → g vs σ H Q
def fNil : List D → LS → Option LS := fun ds δ => match ds with
  | [] => some δ
  | _ => none
def fCons (f : D → LS → Option LS) (g : List D → LS → Option LS) : List D → LS → Option LS := fun ds δ => match ds with
  | d :: r => (f d δ).bind (g r)
  | _ => none
theorem tgs_nil {K : PySem.W.Frag} : TgsOk K gNil [] fNil := fun M vs ds δ δ' σ H Q e r s q => by
  cases ds with
  | nil =>
    cases r
    cases e
    exact ⟨rfl, q _ s fun _ _ => rfl⟩
  | cons d ds => cases e
theorem tgs_cons {K : PySem.W.Frag} {t : TG} {u : TGs} {js ks : List Nat} {f : D → LS → Option LS} {g : List D → LS → Option LS} (h1 : TgOk K t js f) (h2 : TgsOk K u ks g) : TgsOk K (gCons t u) (js ++ ks) (fCons f g) := fun M vs ds δ δ' σ H Q e r s q => by
  cases ds with
  | nil => cases e
  | cons d ds =>
    cases r with
    | cons r1 r2 =>
      have e' : (f d δ).bind (g ds) = some δ' := e
      cases e1 : f d δ with
      | none =>
        rw [e1] at e'
        cases e'
      | some δ1 =>
        rw [e1] at e'
        exact ⟨_, _, rfl, h1 M _ d δ δ1 σ H _ e1 r1 s fun σ1 s1 w1 => h2 M _ ds δ1 δ' σ1 H Q e' r2 s1 fun σ2 s2 w2 => q σ2 s2 fun vs hv =>
          (w2 vs fun j hj => hv j (List.mem_append.mpr (.inr hj))).trans (w1 vs fun j hj => hv j (List.mem_append.mpr (.inl hj)))⟩
def fTup (g : List D → LS → Option LS) : D → LS → Option LS := fun d δ => match d with
  | .tup ds => g ds δ
  | _ => none
theorem tg_tup {K : PySem.W.Frag} {n : Nat} {u : TGs} {js : List Nat} {g : List D → LS → Option LS} (h : TgsOk K u js g) (hn : ∀ ds δ δ', g ds δ = some δ' → ds.length = n) : TgOk K (gTup K n u) js (fTup g) := fun M v d δ δ' σ H Q e r s q => by
  cases d with
  | tup ds =>
    obtain ⟨a, xs, rfl, h1, l1⟩ := r.tup_inv
    exact ⟨a, xs, rfl, h1, by rw [l1.length]; exact hn ds δ δ' e, h M xs ds δ δ' σ H Q e l1 s q⟩
  | _ => cases e
theorem tg_pair {K : PySem.W.Frag} (i j : Nat) : TgOk K (gTup K 2 (gCons (gName i) (gCons (gName j) gNil))) ([i] ++ ([j] ++ [])) (fTup (fCons (fOne i) (fCons (fOne j) fNil))) :=
  tg_tup (tgs_cons (tg_name i) (tgs_cons (tg_name j) tgs_nil)) fun ds δ δ' e => by
    cases ds with
    | nil => cases e
    | cons d ds => cases ds with
      | nil => cases e
      | cons d' ds => cases ds with
        | nil => rfl
        | cons d'' ds => cases e

/-! ### what is walked -/
/-- the items of what iter evaluates to; M': more lists may be changed meanwhile, new ones -/
structure PIt (X : Cx) (M : AS) (tg iter : Expr) (A : As) (δ : LS) (B : As) (W : Hp → Prop) (items : List D) : Prop where
  ex : ∃ wi, PI X tg iter wi ∧ ∀ σ H R, St0 X.K M A δ σ H → (∀ (J : It) (n : Nat) (G : Hp → Prop) (Y : Nat → Hp → V → Hp → Prop) (H1 : Hp), Kp M H H1 → B.p H1 → Walk J n G Y → n = items.length →
    (∀ M' : AS, (∀ a, M'.x a → M.x a ∨ H1 a = none) → (∀ H2, Kp M' H1 H2 → W H2 → G H2) ∧ ∀ i H2 x H3, Kp M' H1 H2 → Y i H2 x H3 → i < n → Same H2 H3 ∧ ∃ d, items[i]? = some d ∧ Rp X.K M' H3 x d) → R J H1) → wi σ H R
theorem notM {M M' : AS} {H : Hp} {a : Addr} {o : HO} (m : ∀ a, M'.x a → M.x a ∨ H a = none) (h : H a = some o) (n : ¬ M.x a) : ¬ M'.c a := fun z => (fun z => (m a z).elim n fun q => by rw [q] at h; cases h) (M'.sub a z)
section
variable {X : Cx} {M : AS} {A B C G : As} {δ : LS} {pos p : Pos} {x y z d : D} {a b e o tg iter : Expr} {items : List D}
theorem i_list (h : PE X iter (tC X.K M A δ B (.lst items))) : PIt X M tg iter A δ B (fun _ => True) items := ⟨_, pi_list h, fun σ H R s q => ⟨s, fun v H1 k1 b1 r1 => by
  obtain ⟨a, xs, rfl, h1, m1, l1⟩ := r1.lst_inv
  refine ⟨a, rfl, ⟨xs, SqL.of h1⟩, q (Itl X.K a) xs.length _ (YAt xs) H1 k1 b1 walk_list l1.length fun M' hm => ⟨fun H2 k2 _ => SqL.of (k2.lst _ _ h1 (notM hm h1 m1)), fun i H2 x H3 k2 y hi => ?_⟩⟩
  obtain ⟨rfl, hx⟩ := y
  obtain ⟨d, e1, r⟩ := ((l1.more hm).kp k2).getV hx
  exact ⟨Same.refl _, d, e1, r⟩⟩⟩
theorem i_tup (h : PE X iter (tC X.K M A δ B (.tup items))) : PIt X M tg iter A δ B (fun _ => True) items := ⟨_, pi_tup h, fun σ H R s q => ⟨s, fun v H1 k1 b1 r1 => by
  obtain ⟨a, xs, rfl, h1, l1⟩ := r1.tup_inv'
  refine ⟨a, rfl, ⟨xs, SqT.of h1⟩, q (Itt X.K a) xs.length _ (YAt xs) H1 k1 b1 walk_tup l1.length fun M' hm => ⟨fun H2 k2 _ => SqT.of (k2.tup _ _ h1), fun i H2 x H3 k2 y hi => ?_⟩⟩
  obtain ⟨rfl, hx⟩ := y
  obtain ⟨d, e1, r⟩ := ((l1.more hm).kp k2).getV hx
  exact ⟨Same.refl _, d, e1, r⟩⟩⟩
def intsD (n : Nat) : List D := (List.range n).map fun i => D.int (i : Nat)
theorem intsD_get {n i : Nat} (h : i < n) : (intsD n)[i]? = some (.int (i : Nat)) := by
  unfold intsD
  rw [List.getElem?_map, List.getElem?_range h] <;> rfl
theorem intsD_len (n : Nat) : (intsD n).length = n := by
  unfold intsD
  rw [List.length_map, List.length_range]
theorem i_range {n : Int} {q0 : Pos} (hm : X.mg "range" = none) (h : PE X e (tC X.K M A δ B (.int n))) (h2 : n < 2 ^ 62) (h1 : -(2 ^ 62) ≤ n) (hg : Gl X "range" := by rfl) (hs0 : starEach (e :: []) X.env = (false, eval e X.env) :: starEach [] X.env := by rfl) (hs : starEach [e] X.env = [(false, eval e X.env)] := by rfl) :
    PIt X M tg (.Call (.Name "range" p) [e] [] pos) A δ B (fun _ => True) (intsD n.toNat) := ⟨_, pi_range1 hg hm (a_one h hs0) hs, fun σ H R s q => ⟨s, fun vs H1 k1 b1 r1 => by
  cases r1 with
  | cons r1 r2 =>
    cases r2
    cases r1
    refine ⟨n, rfl, h1, h2, q (Itr 0 n.toNat) n.toNat _ _ H1 k1 b1 walk_range (intsD_len _).symm fun M' hm => ⟨fun _ _ _ => trivial, fun i H2 x H3 k2 y hi => ?_⟩⟩
    obtain ⟨rfl, rfl⟩ := y
    refine ⟨Same.refl _, .int (i : Nat), intsD_get hi, ?_⟩
    show Rp X.K M' _ (.int (0 + (i : Int))) (.int (i : Int))
    rw [Int.zero_add]
    exact .int _⟩⟩
/-- pairs of the places and the items -/
def enumD : Nat → List D → List D
  | _, [] => []
  | i, d :: ds => .tup [.int (i : Nat), d] :: enumD (i + 1) ds
theorem enumD_len : ∀ (i : Nat) (ds : List D), (enumD i ds).length = ds.length
  | _, [] => rfl
  | i, d :: ds => congrArg (· + 1) (enumD_len (i + 1) ds)
theorem enumD_get : ∀ {i : Nat} {ds : List D} {j : Nat} {d : D}, ds[j]? = some d → (enumD i ds)[j]? = some (.tup [.int ((i + j : Nat) : Int), d])
  | _, [], j, d, h => by simp at h
  | i, d0 :: ds, 0, d, h => by
    simp at h
    subst h
    rfl
  | i, d0 :: ds, j + 1, d, h => by
    have ih := enumD_get (i := i + 1) (ds := ds) (j := j) (d := d) (by simpa using h)
    show (enumD (i + 1) ds)[j]? = _
    rw [ih]
    have e : i + 1 + j = i + (j + 1) := by omega
    rw [e]
theorem i_enum {elts : List Expr} {kk : Nat} {tpos : Pos} (hm : X.mg "enumerate" = none) (h : PE X e (tC X.K M A δ B (.lst items))) (hg : Gl X "enumerate" := by rfl) (hs0 : starEach (e :: []) X.env = (false, eval e X.env) :: starEach [] X.env := by rfl) (hs : starEach [e] X.env = [(false, eval e X.env)] := by rfl) :
    PIt X M (.Tuple elts kk tpos) (.Call (.Name "enumerate" p) [e] [] pos) A δ B (fun _ => True) (enumD 0 items) := ⟨_, pi_enum hg hm (a_one h hs0) hs, fun σ H R s q => ⟨s, fun vs H1 k1 b1 r1 => by
  cases r1 with
  | cons r1 r2 =>
    cases r2
    obtain ⟨a, xs, rfl, h1, m1, l1⟩ := r1.lst_inv
    refine ⟨a, xs, rfl, SqL.of h1, q (Ite X.K a) xs.length _ _ H1 k1 b1 walk_enum (by rw [enumD_len]; exact l1.length) fun M' hm => ⟨fun H2 k2 _ => SqL.of (k2.lst _ _ h1 (notM hm h1 m1)), fun i H2 x H3 k2 y hi => ?_⟩⟩
    obtain ⟨T, v, w, rfl, hT, rfl, e1, e2⟩ := y
    cases e1
    obtain ⟨d, e3, r⟩ := ((l1.more hm).kp k2).getV e2
    refine ⟨Same.new hT, _, enumD_get e3, ?_⟩
    rw [Nat.zero_add]
    exact .tup upd_same (.cons (.int _) (.cons (r.kp (.new hT) d w) .nil))⟩⟩
def zipD : List D → List D → List D
  | d :: ds, e :: es => .tup [d, e] :: zipD ds es
  | _, _ => []
theorem zipD_len : ∀ (ds es : List D), (zipD ds es).length = min ds.length es.length
  | [], es => by simp [zipD]
  | d :: ds, [] => by simp [zipD]
  | d :: ds, e :: es => by
    show (zipD ds es).length + 1 = min (ds.length + 1) (es.length + 1)
    rw [zipD_len ds es]
    omega
theorem zipD_get : ∀ {ds es : List D} {j : Nat} {d e : D}, ds[j]? = some d → es[j]? = some e → (zipD ds es)[j]? = some (.tup [d, e])
  | [], es, j, d, e, h, k => by simp at h
  | d0 :: ds, [], j, d, e, h, k => by simp at k
  | d0 :: ds, e0 :: es, 0, d, e, h, k => by
    simp at h k
    subst h k
    rfl
  | d0 :: ds, e0 :: es, j + 1, d, e, h, k => zipD_get (ds := ds) (es := es) (j := j) (by simpa using h) (by simpa using k)
theorem i_zip {ds es : List D} {elts : List Expr} {kk : Nat} {tpos : Pos} (hm : X.mg "zip" = none) (ha : PE X a (tC X.K M A δ B (.lst ds))) (hb : PE X b (tC X.K M B δ C (.lst es))) (hg : Gl X "zip" := by rfl)
    (hs0 : starEach (a :: [b]) X.env = (false, eval a X.env) :: starEach [b] X.env := by rfl) (hs1 : starEach (b :: []) X.env = (false, eval b X.env) :: starEach [] X.env := by rfl) (hpl : (backTo pos (starEach [b] X.env)).any (·.1) = false := by rfl) :
    PIt X M (.Tuple elts kk tpos) (.Call (.Name "zip" p) [a, b] [] pos) A δ C (fun _ => True) (zipD ds es) := ⟨_, pi_zip hg hm (a_cons ha (a_one hb hs1) hs0) hs0 hpl, fun σ H R s q => ⟨s, fun vs H1 k1 b1 r1 => by
  cases r1 with
  | cons r1 r2 =>
    cases r2 with
    | cons r2 r3 =>
      cases r3
      obtain ⟨a1, xs, rfl, h1, m1, l1⟩ := r1.lst_inv
      obtain ⟨a2, ys, rfl, h2, m2, l2⟩ := r2.lst_inv
      refine ⟨a1, a2, xs, ys, rfl, SqL.of h1, SqL.of h2, q (Itz X.K a1 a2) (min xs.length ys.length) _ _ H1 k1 b1 (walk_zip rfl) (by rw [zipD_len, l1.length, l2.length]) fun M' hm => ⟨fun H2 k2 _ => ⟨SqL.of (k2.lst _ _ h1 (notM hm h1 m1)), SqL.of (k2.lst _ _ h2 (notM hm h2 m2))⟩, fun i H2 x H3 k2 y hi => ?_⟩⟩
      obtain ⟨T, v, w, rfl, hT, rfl, e1, e2⟩ := y
      obtain ⟨d, e3, r3⟩ := ((l1.more hm).kp k2).getV e1
      obtain ⟨d', e4, r4⟩ := ((l2.more hm).kp k2).getV e2
      exact ⟨Same.new hT, _, zipD_get e3 e4, .tup upd_same (.cons (r3.kp (.new hT) d v) (.cons (r4.kp (.new hT) d' w) .nil))⟩⟩⟩

/-! ### list comprehensions -/
/-- what the turns give -/
def gather (n : Nat) (f : Nat → Bool) (r : Nat → D) : List D := ((List.range n).filter f).map r
theorem gather_yes {n : Nat} {f : Nat → Bool} {r : Nat → D} (h : f n = true) : gather (n + 1) f r = gather n f r ++ [r n] := by
  unfold gather
  rw [List.range_succ, List.filter_append, List.map_append, List.filter_cons, if_pos h] <;> rfl
theorem gather_no {n : Nat} {f : Nat → Bool} {r : Nat → D} (h : f n = false) : gather (n + 1) f r = gather n f r := by
  unfold gather
  rw [List.range_succ, List.filter_append, List.map_append, List.filter_cons, if_neg (by rw [h]; decide)]
  show _ ++ [] = _
  rw [List.append_nil]
theorem gather_len (n : Nat) (f : Nat → Bool) (r : Nat → D) : (gather n f r).length ≤ n := by
  unfold gather
  rw [List.length_map]
  exact Nat.le_trans (List.length_filter_le f _) (by rw [List.length_range]; exact Nat.le_refl _)
def anyE (Y : Shared → Hp → Addr → List (Str × Addr) → List Addr → Cx) (e : Expr) : TE := fun σ H Q => ∃ t : TE, (∀ s H C cl fp, PE (Y s H C cl fp) e t) ∧ t σ H Q
theorem pe_any {Y : Shared → Hp → Addr → List (Str × Addr) → List Addr → Cx} {e : Expr} (s H C cl fp) : PE (Y s H C cl fp) e (anyE Y e) := ⟨fun pins s' σ H' Q I ⟨t, h, q⟩ => (h s H C cl fp).run pins s' σ H' Q I q⟩
def anyT (Y : Shared → Hp → Addr → List (Str × Addr) → List Addr → Cx) (ifs : List Expr) : TT := fun σ H Q => ∃ t : TT, (∀ s H C cl fp, PTs (Y s H C cl fp) ifs t) ∧ t σ H Q
theorem pts_any {Y : Shared → Hp → Addr → List (Str × Addr) → List Addr → Cx} {e : List Expr} (s H C cl fp) : PTs (Y s H C cl fp) e (anyT Y e) := ⟨fun pins s' σ H' Q I ⟨t, h, q⟩ => (h s H C cl fp).run pins s' σ H' Q I q⟩
theorem ts_nil : PTs X [] (tCT X.K M A δ A true) := ⟨fun pins s σ H Q I q => pts_nil.run pins s σ H Q I (q.2 H (Kp.refl H) q.1.a)⟩
theorem ts_one {c : Expr} {k : Bool} (h : PT X c (tCT X.K M A δ B k)) : PTs X [c] (tCT X.K M A δ B k) := pts_one h

/-- the turns: from At i and the i-th item, the test tells b i, then the element gives r i -/
def LcTurns (X : Cx) (M : AS) (scope : Scope) (elt : Expr) (ifs : List Expr) (f : D → LS → Option LS) (items : List D) (δ : LS) (own : List (Str × Nat)) (At Bt : Nat → As) (b : Nat → Bool) (r : Nat → D) : Prop :=
  ∀ (i : Nat) (d : D), items[i]? = some d → ∃ δ', f d (wipeL δ (own.map (·.2))) = some δ' ∧
    (∀ s H C cl fp, PTs (X.blk s H scope (compEnvC scope cl C X.env) fp) ifs (tCT X.K M (At i) δ' (Bt i) (b i))) ∧
    (b i = true → ∀ s H C cl fp, PE (X.blk s H scope (compEnvC scope cl C X.env) fp) elt (tC X.K M (Bt i) δ' (At (i + 1)) (r i))) ∧ (b i = false → ∀ H, (Bt i).p H → (At (i + 1)).p H)
theorem wipe_idem {σ : L2.St} : ∀ (us vs : List Nat), (∀ u ∈ us, u ∈ vs) → L2.wipe (L2.wipe σ us) vs = L2.wipe σ vs
  | [], vs, _ => rfl
  | u :: us, vs, h => by
    show L2.wipe ((L2.wipe σ us).set u none) vs = L2.wipe σ vs
    rw [wipe_set (h u (by simp)), wipe_idem us vs fun w hw => h w (by simp [hw])]
/-- a new thing -/
def tCF (K : PySem.W.Frag) (M : AS) (A : As) (δ : LS) (B : As) (d : D) : TE := fun σ H Q => St0 K M A δ σ H ∧ ∀ p H', H p = none → Kp M H H' → B.p H' → Rp K M H' (.ref p) d → Q (.ref p) H'
/-- the reading of a comprehension -/
theorem lc_readF {elt : Expr} {ifs : List Expr} {scope : Scope} {own : List (Str × Nat)} {g : TG} {js : List Nat} {f : D → LS → Option LS} (At Bt : Nat → As) (b : Nat → Bool) (r : Nat → D)
    {W : Hp → Prop} (hi : PIt X M tg iter A δ (At 0) W items) (hW : ∀ i H, (At i).p H → W H) (tgk : TgOk X.K g js f) (hjs : ∀ j ∈ js, j ∈ own.map (·.2))
    (hL : ∀ i a, (At i).L a → (At 0).L a) (hz : items.length < sizeLine)
    (turns : ∀ M' : AS, (∀ a, M.x a → M'.x a) → M'.c = M.c → LcTurns X M' scope elt ifs f items δ own At Bt b r) :
    ∃ wi, PI X tg iter wi ∧ ∀ σ H Q, tCF X.K M A δ (At items.length) (.lst (gather items.length b r)) σ H Q →
      tLc wi g (anyT (fun s H C cl fp => X.blk s H scope (compEnvC scope cl C X.env) fp) ifs) (anyE (fun s H C cl fp => X.blk s H scope (compEnvC scope cl C X.env) fp) elt) (own.map (·.2)) σ H Q := by
  obtain ⟨wi, hpi, hwi⟩ := hi.ex
  refine ⟨wi, hpi, fun σ H Q ⟨s, q⟩ => ?_⟩
  refine hwi σ H _ s fun J n G Y H1 k1 b1 w hn hGY => ?_
  intro D0 hD
  subst hn
  have tr1 : Tr M H1 := tr_kp s.tr k1
  have nM : ¬ M.x D0 := tr_new tr1 hD
  have nL : ∀ i, ¬ (At i).L D0 := fun i z => (At 0).trk b1 (hL i D0 z) hD
  have Mm : ∀ a, (M.hide D0).x a → M.x a ∨ H1 a = none := fun a h => h.elim .inl fun z => .inr (by rw [z]; exact hD)
  have T := turns (M.hide D0) (fun a h => .inl h) rfl
  obtain ⟨hG, hY⟩ := hGY (M.hide D0) Mm
  have s1 : RelS X.K (M.hide D0) H1 σ δ := (s.s.kp k1).more Mm
  have trD : ∀ H', Kp M H1 H' → (∃ acc, H' D0 = some (.lst acc)) → Tr (M.hide D0) H' := fun H' k e a m => m.elim (fun m => k.trk a (tr1 a m)) fun z => by
    obtain ⟨acc, e⟩ := e
    rw [z, e]
    exact fun z => by cases z
  have lk : ∀ {H' H'' : Hp}, Kp M H' H'' → Kp (M.hide D0) H' H'' := fun k => k.less fun _ h => h
  have kl : ∀ {H' H'' : Hp}, Kp (M.hide D0) H' H'' → Kp M H' H'' := fun k => k.less fun _ h => h
  have ncD : ¬ (M.hide D0).c D0 := fun z => nM (M.sub _ z)
  refine lc_it w (fun i H' => Kp M H1 H' ∧ (At i).p H' ∧ ∃ acc, H' D0 = some (.lst acc) ∧ acc.length ≤ i ∧ RpL X.K (M.hide D0) H' acc (gather i b r)) ⟨.new hD, (At 0).mono (Same.new hD) b1, [], upd_same, Nat.le_refl _, .nil⟩ (fun i H' _ pv => hG H' (lk pv.1) (hW i H' pv.2.1)) (fun i x H2 H3 hi2 pv y => ?_) fun H2 pv => ?_
  · obtain ⟨k2, a2, acc, e2, len2, r2⟩ := pv
    obtain ⟨sm, d, ed, rd⟩ := hY i H2 x H3 (lk k2) y hi2
    obtain ⟨δ', ef, ht, he, hf⟩ := T i d ed
    have k3 : Kp M H1 H3 := k2.trans (.of_same sm)
    refine tgk (M.hide D0) x d _ δ' _ H3 _ ef rd ((s1.kp (lk k3)).wipe _) fun σ' s' wp => ?_
    refine ⟨by rw [wp _ hjs, wipe_idem _ _ fun _ h => h], ?_⟩
    have e3 := sm _ _ e2
    have r3 := r2.kp (.of_same sm)
    have st : St0 X.K (M.hide D0) (At i) δ' σ' H3 := ⟨(At i).mono sm a2, trD H3 k3 ⟨acc, e3⟩, s'⟩
    refine ⟨_, ht, st, fun H4 k4 b4 => ?_⟩
    have e4 := k4.lst _ _ e3 ncD
    have k4' : Kp M H1 H4 := k3.trans (kl k4)
    have r4 := r3.kp k4
    cases hb : b i with
    | false =>
      refine iteF ?_
      exact ⟨k4', hf hb H4 b4, acc, e4, Nat.le_succ_of_le len2, by rw [gather_no hb]; exact r4⟩
    | true =>
      refine iteT ?_
      refine ⟨_, he hb, st.kp k4 b4, fun v H5 k5 a5 r5 => ?_⟩
      have e5 := k5.lst _ _ e4 ncD
      have k5' : Kp M H1 H5 := k4'.trans (kl k5)
      have lt5 : acc.length < sizeLine := by omega
      have kD : Kp (M.hide D0) H5 (upd H5 D0 (.lst (acc ++ [v]))) → True := fun _ => trivial
      -- the new list grows: nothing else leans on it
      have ko : Kp ((M.hide D0).own D0) H5 (upd H5 D0 (.lst (acc ++ [v]))) := .upd e5 (fun xs z => by cases z) (.inl (.inr rfl))
      have rr : RpL X.K (M.hide D0) (upd H5 D0 (.lst (acc ++ [v]))) (acc ++ [v]) (gather i b r ++ [r i]) := by
        have q5 := (r4.kp k5).append (RpL.one r5)
        have q6 : RpL X.K ((M.hide D0).own D0) H5 (acc ++ [v]) (gather i b r ++ [r i]) := q5.more (M' := (M.hide D0).own D0) (fun a (z : (M.hide D0).x a ∨ a = D0) => z.elim Or.inl fun z => Or.inl (show (M.hide D0).x a from Or.inr z))
        exact (q6.kp ko).less (M' := M.hide D0) fun a z => (show (M.hide D0).x a ∨ a = D0 from Or.inl z)
      refine ⟨acc, e5, lt5, ⟨?_, (At (i + 1)).stab e5 (nL _) a5, acc ++ [v], upd_same, by rw [List.length_append, List.length_singleton]; omega, by rw [gather_yes hb]; exact rr⟩⟩
      have ko' : Kp (M.own D0) H1 (upd H5 D0 (.lst (acc ++ [v]))) := (k5'.less (M' := M.own D0) fun a z => (show M.c a ∨ a = D0 from Or.inl z)).trans (.upd e5 (fun xs z => by cases z) (.inl (.inr rfl)))
      exact ko'.fewer (M := M) fun a (z : M.c a ∨ a = D0) => z.elim Or.inl fun z => Or.inr (by rw [z]; exact hD)
  · obtain ⟨k2, a2, acc, e2, len2, r2⟩ := pv
    exact q D0 H2 (k1.free hD) (k1.trans k2) a2 (.lst e2 nM (r2.less (M' := M) fun a z => (show M.x a ∨ a = D0 from Or.inl z)))
theorem lc_read {elt : Expr} {ifs : List Expr} {scope : Scope} {own : List (Str × Nat)} {g : TG} {js : List Nat} {f : D → LS → Option LS} (At Bt : Nat → As) (b : Nat → Bool) (r : Nat → D)
    {W : Hp → Prop} (hi : PIt X M tg iter A δ (At 0) W items) (hW : ∀ i H, (At i).p H → W H) (tgk : TgOk X.K g js f) (hjs : ∀ j ∈ js, j ∈ own.map (·.2))
    (hL : ∀ i a, (At i).L a → (At 0).L a) (hz : items.length < sizeLine)
    (turns : ∀ M' : AS, (∀ a, M.x a → M'.x a) → M'.c = M.c → LcTurns X M' scope elt ifs f items δ own At Bt b r) :
    ∃ wi, PI X tg iter wi ∧ ∀ σ H Q, tC X.K M A δ (At items.length) (.lst (gather items.length b r)) σ H Q →
      tLc wi g (anyT (fun s H C cl fp => X.blk s H scope (compEnvC scope cl C X.env) fp) ifs) (anyE (fun s H C cl fp => X.blk s H scope (compEnvC scope cl C X.env) fp) elt) (own.map (·.2)) σ H Q := by
  obtain ⟨wi, h1, h2⟩ := lc_readF At Bt b r hi hW tgk hjs hL hz turns
  exact ⟨wi, h1, fun σ H Q ⟨s, q⟩ => h2 σ H Q ⟨s, fun p H' _ k b r => q _ H' k b r⟩⟩
theorem e_lcW {elt : Expr} {ifs : List Expr} {scope : Scope} {own : List (Str × Nat)} {g : TG} {js : List Nat} {f : D → LS → Option LS} (At Bt : Nat → As) (b : Nat → Bool) (r : Nat → D) (hc : X.calm = true) (hN : X.N.Nodup) (ok : BlkOk X.N X.env.scope scope own)
    {W : Hp → Prop} (hi : PIt X M tg iter A δ (At 0) W items) (hW : ∀ i H, (At i).p H → W H) (hg : ∀ (s : Shared) (H : Hp) (C : Addr) (cl : List (Str × Addr)) (fp : List Addr), PG (X.blk s H scope (compEnvC scope cl C X.env) fp) tg g) (tgk : TgOk X.K g js f) (hjs : ∀ j ∈ js, j ∈ own.map (·.2))
    (hL : ∀ i a, (At i).L a → (At 0).L a) (hz : items.length < sizeLine)
    (turns : ∀ M' : AS, (∀ a, M.x a → M'.x a) → M'.c = M.c → LcTurns X M' scope elt ifs f items δ own At Bt b r)
    (hs : ∀ x, foldedSetIterable iter X.env x = pure x := by intro _; rfl) :
    PE X (.ListComp elt [⟨tg, iter, ifs, 0⟩] scope pos) (tC X.K M A δ (At items.length) (.lst (gather items.length b r))) := by
  obtain ⟨wi, hpi, hr⟩ := lc_read At Bt b r hi hW tgk hjs hL hz turns
  exact pe_imp (pe_lc hc hN hpi ok hg (fun s H C cl fp => pts_any (Y := fun s H C cl fp => X.blk s H scope (compEnvC scope cl C X.env) fp) s H C cl fp) (fun s H C cl fp => pe_any (Y := fun s H C cl fp => X.blk s H scope (compEnvC scope cl C X.env) fp) s H C cl fp) hs) hr
/-- y = [..] on one line, y a local name -/
theorem s_lcW {i : Nat} {y : Str} {py spos : Pos} {elt : Expr} {ifs : List Expr} {scope : Scope} {own : List (Str × Nat)} {g : TG} {js : List Nat} {f : D → LS → Option LS} (At Bt : Nat → As) (b : Nat → Bool) (r : Nat → D) (hc : X.calm = true) (hN : X.N.Nodup) (hy : X.N[i]? = some y) (hyl : X.env.scope.names.lookup y = some .local)
    (hsw : swapsWith (.ListComp elt [⟨tg, iter, ifs, 0⟩] scope pos) (some (.Name y py)) spos.line X.env = pure true) (ok : BlkOk X.N X.env.scope scope own)
    {W : Hp → Prop} (hi : PIt X M tg iter A δ (At 0) W items) (hW : ∀ i H, (At i).p H → W H) (hg : ∀ (s : Shared) (H : Hp) (C : Addr) (cl : List (Str × Addr)) (fp : List Addr), PG (X.blk s H scope (compEnvC scope cl C X.env) fp) tg g) (tgk : TgOk X.K g js f) (hjs : ∀ j ∈ js, j ∈ own.map (·.2))
    (hL : ∀ i a, (At i).L a → (At 0).L a) (hz : items.length < sizeLine)
    (turns : ∀ M' : AS, (∀ a, M.x a → M'.x a) → M'.c = M.c → LcTurns X M' scope elt ifs f items δ own At Bt b r)
    (hs : ∀ x, foldedSetIterable iter X.env x = pure x := by intro _; rfl) :
    PS X (.Assign [.Name y py] (.ListComp elt [⟨tg, iter, ifs, 0⟩] scope pos) spos) (tO X.K M A δ (.nx (At items.length) (δ.set i (some (.lst (gather items.length b r)))))) := by
  obtain ⟨wi, hpi, hr⟩ := lc_read At Bt b r hi hW tgk hjs hL hz turns
  refine ⟨fun pins s0 σ H E I h => ?_⟩
  refine (ps_setLc hc hN hy hyl hsw hpi ok hg (fun s H C cl fp => pts_any (Y := fun s H C cl fp => X.blk s H scope (compEnvC scope cl C X.env) fp) s H C cl fp) (fun s H C cl fp => pe_any (Y := fun s H C cl fp => X.blk s H scope (compEnvC scope cl C X.env) fp) s H C cl fp) hs).run pins s0 σ H E I ?_
  obtain ⟨s, q⟩ := h
  exact hr σ H (fun x H1 => gName i x σ H1 E.nx) ⟨s, fun v H1 k1 b1 r1 => q _ H1 k1 b1 ((s.s.kp k1).set i r1)⟩
end
end Dx
set_option Elab.async false
set_option linter.all false
set_option maxRecDepth 100000
set_option maxHeartbeats 4000000
namespace Dx
open PySem PySem.Spec PyProof.Rows L2

theorem gather_filter (items : List D) (b : D → Bool) (F : D → D) : gather items.length (fun i => b (items.getD i .non)) (fun i => F (items.getD i .non)) = (items.filter b).map F := by
  have key : ∀ n, n ≤ items.length → gather n (fun i => b (items.getD i .non)) (fun i => F (items.getD i .non)) = ((items.take n).filter b).map F := by
    intro n
    induction n with
    | zero => intro _; rfl
    | succ n ih =>
      intro h
      have hn : n < items.length := by omega
      have e : items.take (n + 1) = items.take n ++ [items.getD n .non] := by
        rw [List.take_succ, List.getElem?_eq_getElem hn, List.getD_eq_getElem?_getD, List.getElem?_eq_getElem hn] <;> rfl
      rw [e, List.filter_append, List.map_append, ← ih (by omega)]
      cases hb : b (items.getD n .non) with
      | true => rw [gather_yes hb, List.filter_cons, if_pos hb] <;> rfl
      | false => rw [gather_no hb, List.filter_cons, if_neg (by rw [hb]; decide)]; simp
  rw [key _ (Nat.le_refl _), List.take_length]
theorem getD_of {items : List D} {i : Nat} {d : D} (h : items[i]? = some d) : items.getD i .non = d := by
  rw [List.getD_eq_getElem?_getD, h] <;> rfl

section
variable {X : Cx} {M : AS} {A B C G : As} {δ δ' : LS} {pos p : Pos} {x y z d : D} {a b e o tg iter : Expr} {items : List D}
/-- a comprehension whose turns leave the state as it is -/
theorem e_lcP {elt : Expr} {ifs : List Expr} {scope : Scope} {own : List (Str × Nat)} {g : TG} {js : List Nat} {f : D → LS → Option LS} (b : D → Bool) (F : D → D) (hc : X.calm = true) (hN : X.N.Nodup) (ok : BlkOk X.N X.env.scope scope own)
    {W : Hp → Prop} (hi : PIt X M tg iter A δ B W items) (hW : ∀ H, B.p H → W H) (hg : ∀ (s : Shared) (H : Hp) (C : Addr) (cl : List (Str × Addr)) (fp : List Addr), PG (X.blk s H scope (compEnvC scope cl C X.env) fp) tg g) (tgk : TgOk X.K g js f) (hjs : ∀ j ∈ js, j ∈ own.map (·.2)) (hz : items.length < sizeLine)
    (turns : ∀ M' : AS, (∀ a, M.x a → M'.x a) → M'.c = M.c → ∀ d ∈ items, ∃ δ', f d (wipeL δ (own.map (·.2))) = some δ' ∧
      (∀ s H C cl fp, PTs (X.blk s H scope (compEnvC scope cl C X.env) fp) ifs (tCT X.K M' B δ' B (b d))) ∧
      (b d = true → ∀ s H C cl fp, PE (X.blk s H scope (compEnvC scope cl C X.env) fp) elt (tC X.K M' B δ' B (F d))))
    (hs : ∀ x, foldedSetIterable iter X.env x = pure x := by intro _; rfl) :
    PE X (.ListComp elt [⟨tg, iter, ifs, 0⟩] scope pos) (tC X.K M A δ B (.lst ((items.filter b).map F))) := by
  rw [← gather_filter]
  refine e_lcW (fun _ => B) (fun _ => B) _ _ hc hN ok hi (fun _ H => hW H) hg tgk hjs (fun _ _ h => h) hz (fun M' h1 h2 i d hd => ?_) hs
  obtain ⟨δ', h3, h4, h5⟩ := turns M' h1 h2 d (List.mem_of_getElem? hd)
  rw [getD_of hd]
  exact ⟨δ', h3, h4, h5, fun _ H h => h⟩
/-- .. without a test -/
theorem e_lcM {elt : Expr} {scope : Scope} {own : List (Str × Nat)} {g : TG} {js : List Nat} {f : D → LS → Option LS} (F : D → D) (hc : X.calm = true) (hN : X.N.Nodup) (ok : BlkOk X.N X.env.scope scope own)
    {W : Hp → Prop} (hi : PIt X M tg iter A δ B W items) (hW : ∀ H, B.p H → W H) (hg : ∀ (s : Shared) (H : Hp) (C : Addr) (cl : List (Str × Addr)) (fp : List Addr), PG (X.blk s H scope (compEnvC scope cl C X.env) fp) tg g) (tgk : TgOk X.K g js f) (hjs : ∀ j ∈ js, j ∈ own.map (·.2)) (hz : items.length < sizeLine)
    (turns : ∀ M' : AS, (∀ a, M.x a → M'.x a) → M'.c = M.c → ∀ d ∈ items, ∃ δ', f d (wipeL δ (own.map (·.2))) = some δ' ∧
      ∀ s H C cl fp, PE (X.blk s H scope (compEnvC scope cl C X.env) fp) elt (tC X.K M' B δ' B (F d)))
    (hs : ∀ x, foldedSetIterable iter X.env x = pure x := by intro _; rfl) :
    PE X (.ListComp elt [⟨tg, iter, [], 0⟩] scope pos) (tC X.K M A δ B (.lst (items.map F))) := by
  have h := e_lcP (pos := pos) (ifs := []) (fun _ => true) F hc hN ok hi hW hg tgk hjs hz (fun M' h1 h2 d hd => by
    obtain ⟨δ', h3, h4⟩ := turns M' h1 h2 d hd
    exact ⟨δ', h3, fun s H C cl fp => ts_nil, fun _ => h4⟩) hs
  rw [List.filter_eq_self.mpr fun _ _ => rfl] at h
  exact h

/-- y = [..] on one line, y a local name; the turns leave the state as it is -/
theorem s_lcP {i : Nat} {y : Str} {py spos : Pos} {elt : Expr} {ifs : List Expr} {scope : Scope} {own : List (Str × Nat)} {g : TG} {js : List Nat} {f : D → LS → Option LS} (b : D → Bool) (F : D → D) (hc : X.calm = true) (hN : X.N.Nodup) (hy : X.N[i]? = some y) (hyl : X.env.scope.names.lookup y = some .local)
    (hsw : swapsWith (.ListComp elt [⟨tg, iter, ifs, 0⟩] scope pos) (some (.Name y py)) spos.line X.env = pure true) (ok : BlkOk X.N X.env.scope scope own)
    {W : Hp → Prop} (hi : PIt X M tg iter A δ B W items) (hW : ∀ H, B.p H → W H) (hg : ∀ (s : Shared) (H : Hp) (C : Addr) (cl : List (Str × Addr)) (fp : List Addr), PG (X.blk s H scope (compEnvC scope cl C X.env) fp) tg g) (tgk : TgOk X.K g js f) (hjs : ∀ j ∈ js, j ∈ own.map (·.2)) (hz : items.length < sizeLine)
    (turns : ∀ M' : AS, (∀ a, M.x a → M'.x a) → M'.c = M.c → ∀ d ∈ items, ∃ δ', f d (wipeL δ (own.map (·.2))) = some δ' ∧
      (∀ s H C cl fp, PTs (X.blk s H scope (compEnvC scope cl C X.env) fp) ifs (tCT X.K M' B δ' B (b d))) ∧
      (b d = true → ∀ s H C cl fp, PE (X.blk s H scope (compEnvC scope cl C X.env) fp) elt (tC X.K M' B δ' B (F d))))
    (hs : ∀ x, foldedSetIterable iter X.env x = pure x := by intro _; rfl) :
    PS X (.Assign [.Name y py] (.ListComp elt [⟨tg, iter, ifs, 0⟩] scope pos) spos) (tO X.K M A δ (.nx B (δ.set i (some (.lst ((items.filter b).map F)))))) := by
  rw [← gather_filter]
  refine s_lcW (fun _ => B) (fun _ => B) _ _ hc hN hy hyl hsw ok hi (fun _ H => hW H) hg tgk hjs (fun _ _ h => h) hz (fun M' h1 h2 i d hd => ?_) hs
  obtain ⟨δ', h3, h4, h5⟩ := turns M' h1 h2 d (List.mem_of_getElem? hd)
  rw [getD_of hd]
  exact ⟨δ', h3, h4, h5, fun _ H h => h⟩
theorem s_lcM {i : Nat} {y : Str} {py spos : Pos} {elt : Expr} {scope : Scope} {own : List (Str × Nat)} {g : TG} {js : List Nat} {f : D → LS → Option LS} (F : D → D) (hc : X.calm = true) (hN : X.N.Nodup) (hy : X.N[i]? = some y) (hyl : X.env.scope.names.lookup y = some .local)
    (hsw : swapsWith (.ListComp elt [⟨tg, iter, [], 0⟩] scope pos) (some (.Name y py)) spos.line X.env = pure true) (ok : BlkOk X.N X.env.scope scope own)
    {W : Hp → Prop} (hi : PIt X M tg iter A δ B W items) (hW : ∀ H, B.p H → W H) (hg : ∀ (s : Shared) (H : Hp) (C : Addr) (cl : List (Str × Addr)) (fp : List Addr), PG (X.blk s H scope (compEnvC scope cl C X.env) fp) tg g) (tgk : TgOk X.K g js f) (hjs : ∀ j ∈ js, j ∈ own.map (·.2)) (hz : items.length < sizeLine)
    (turns : ∀ M' : AS, (∀ a, M.x a → M'.x a) → M'.c = M.c → ∀ d ∈ items, ∃ δ', f d (wipeL δ (own.map (·.2))) = some δ' ∧
      ∀ s H C cl fp, PE (X.blk s H scope (compEnvC scope cl C X.env) fp) elt (tC X.K M' B δ' B (F d)))
    (hs : ∀ x, foldedSetIterable iter X.env x = pure x := by intro _; rfl) :
    PS X (.Assign [.Name y py] (.ListComp elt [⟨tg, iter, [], 0⟩] scope pos) spos) (tO X.K M A δ (.nx B (δ.set i (some (.lst (items.map F)))))) := by
  have h := s_lcP (pos := pos) (i := i) (y := y) (py := py) (spos := spos) (ifs := []) (fun _ => true) F hc hN hy hyl hsw ok hi hW hg tgk hjs hz (fun M' h1 h2 d hd => by
    obtain ⟨δ', h3, h4⟩ := turns M' h1 h2 d hd
    exact ⟨δ', h3, fun s H C cl fp => ts_nil, fun _ => h4⟩) hs
  rw [List.filter_eq_self.mpr fun _ _ => rfl] at h
  exact h

/-! ### statements -/
variable {st : Stmt} {rest sts : List Stmt} {ou : Out}
theorem ss_nil : PSs X [] (tO X.K M A δ (.nx A δ)) := pss_imp pss_nil fun E σ H ⟨s, q⟩ => q σ H (Kp.refl H) s.a s.s
theorem ss_cons (h1 : PS X st (tO X.K M A δ (.nx B δ'))) (h2 : PSs X rest (tO X.K M B δ' ou)) : PSs X (st :: rest) (tO X.K M A δ ou) := pss_imp (pss_cons h1 h2) fun E σ H ⟨s, q⟩ => ⟨s, fun σ' H' k b r => ⟨⟨b, tr_kp s.tr k, r⟩, Out.ok_kp k q⟩⟩
theorem ss_stop (h1 : PS X st (tO X.K M A δ (.rt B d))) : PSs X (st :: rest) (tO X.K M A δ (.rt B d)) := pss_imp (pss_cons h1 pss_never) fun E σ H ⟨s, q⟩ => ⟨s, q⟩
theorem ss_brk (h1 : PS X st (tO X.K M A δ (.bk B δ'))) : PSs X (st :: rest) (tO X.K M A δ (.bk B δ')) := pss_imp (pss_cons h1 pss_never) fun E σ H ⟨s, q⟩ => ⟨s, q⟩
theorem ss_one (h1 : PS X st (tO X.K M A δ ou)) : PSs X [st] (tO X.K M A δ ou) := pss_one h1
theorem s_to (h : PS X st (tO X.K M A δ (.nx B δ'))) (i : ∀ H, B.p H → C.p H) : PS X st (tO X.K M A δ (.nx C δ')) := ps_imp h fun E σ H ⟨s, q⟩ => ⟨s, fun σ' H' k b r => q σ' H' k (i H' b) r⟩
theorem s_toR (h : PS X st (tO X.K M A δ (.rt B d))) (i : ∀ H, B.p H → C.p H) : PS X st (tO X.K M A δ (.rt C d)) := ps_imp h fun E σ H ⟨s, q⟩ => ⟨s, fun σ' H' k b r => q σ' H' k (i H' b) r⟩
theorem s_from (h : PS X st (tO X.K M B δ ou)) (i : ∀ H, A.p H → B.p H) : PS X st (tO X.K M A δ ou) := ps_imp h fun E σ H ⟨s, q⟩ => ⟨⟨i H s.a, s.tr, s.s⟩, q⟩
theorem ss_from (h : PSs X sts (tO X.K M B δ ou)) (i : ∀ H, A.p H → B.p H) : PSs X sts (tO X.K M A δ ou) := pss_imp h fun E σ H ⟨s, q⟩ => ⟨⟨i H s.a, s.tr, s.s⟩, q⟩
/-- slots that are not asked any more -/
theorem s_forget (j : Nat) (h : PS X st (tO X.K M A δ (.nx B δ'))) : PS X st (tO X.K M A δ (.nx B (δ'.set j none))) := ps_imp h fun E σ H ⟨s, q⟩ => ⟨s, fun σ' H' k b r => q σ' H' k b (r.forget j)⟩
theorem ss_forget {δ'' : LS} (j : Nat) (h : PSs X sts (tO X.K M A δ (.nx B δ'))) (e : δ'.set j none = δ'' := by rfl) : PSs X sts (tO X.K M A δ (.nx B δ'')) := e ▸ pss_imp h fun E σ H ⟨s, q⟩ => ⟨s, fun σ' H' k b r => q σ' H' k b (r.forget j)⟩
theorem ss_forgetB {δ'' : LS} (j : Nat) (h : PSs X sts (tO X.K M A δ (.bk B δ'))) (e : δ'.set j none = δ'' := by rfl) : PSs X sts (tO X.K M A δ (.bk B δ'')) := e ▸ pss_imp h fun E σ H ⟨s, q⟩ => ⟨s, fun σ' H' k b r => q σ' H' k b (r.forget j)⟩
theorem s_set (i : Nat) {n : Str} {pos' : Pos} (hN : X.N.Nodup) (he : PE X e (tC X.K M A δ B d)) (hi : X.N[i]? = some n := by rfl) (hx : Loc X.env.scope n := by first | exact Or.inl rfl | exact Or.inr rfl) (hs : swapsWith e (some (.Name n pos')) pos.line X.env = pure false := by rfl)
    (hf : X.fn n = true ∨ X.env.scope.names.lookup n = some .local := by first | exact .inl rfl | exact .inr rfl) : PS X (.Assign [.Name n pos'] e pos) (tO X.K M A δ (.nx B (δ.set i (some d)))) :=
  ps_imp (ps_set (i := i) hN hi hx he hs hf) fun E σ H ⟨s, q⟩ => ⟨s, fun v H1 k1 b1 r1 => q _ H1 k1 b1 ((s.s.kp k1).set i r1)⟩
/-- any target -/
theorem s_asg {g : TG} {js : List Nat} {f : D → LS → Option LS} (he : PE X e (tC X.K M A δ B d)) (hg : PG X tg g) (tgk : TgOk X.K g js f) (hf : f d δ = some δ') (hs : swapsWithSole [tg] e pos.line X.env = pure false := by rfl) (hw : swappedStores [tg] e X.env = pure none := by rfl)
    (h1 : (assignEach [tg] X.env).map (·.2) = [assign tg X.env] := by rfl) : PS X (.Assign [tg] e pos) (tO X.K M A δ (.nx B δ')) :=
  ps_imp (ps_asg he hg hs hw h1) fun E σ H ⟨s, q⟩ => ⟨s, fun v H1 k1 b1 r1 => tgk M v d δ δ' σ H1 _ hf r1 (s.s.kp k1) fun σ' s' _ => q σ' H1 k1 b1 s'⟩
/-- a, b = e1, e2, both local names -/
theorem s_par (i j : Nat) {n m : Str} {px py pt : Pos} {kt k2 pt2} (hc : X.calm = true) (hN : X.N.Nodup) (hi : X.N[i]? = some n) (hj : X.N[j]? = some m) (hij : i ≠ j) (hx : X.env.scope.names.lookup n = some .local) (hy : X.env.scope.names.lookup m = some .local)
    (ha : PA X [a, b] (tCA X.K M A δ B [x, y])) (hw : swappedStores [.Tuple [.Name n px, .Name m py] kt pt] (.Tuple [a, b] k2 pt2) X.env = pure (some [n, m])) (hs : swapsWithSole [.Tuple [.Name n px, .Name m py] kt pt] (.Tuple [a, b] k2 pt2) pos.line X.env = pure false := by rfl) : PS X (.Assign [.Tuple [.Name n px, .Name m py] kt pt] (.Tuple [a, b] k2 pt2) pos) (tO X.K M A δ (.nx B ((δ.set i (some x)).set j (some y)))) :=
  ps_imp (ps_par hc hN hi hj hij hx hy ha hw) fun E σ H ⟨s, q⟩ => ⟨s, fun vs H1 k1 b1 r1 => by
    cases r1 with
    | cons r1 r2 =>
      cases r2 with
      | cons r2 r3 =>
        cases r3
        exact ⟨_, _, rfl, q _ H1 k1 b1 (((s.s.kp k1).set i r1).set j r2)⟩⟩
theorem s_ret (he : PE X e (tC X.K M A δ B d)) : PS X (.Return (some e) pos) (tO X.K M A δ (.rt B d)) := ps_imp (ps_ret he) fun E σ H ⟨s, q⟩ => ⟨s, q⟩
theorem s_expr (he : PE X e (tC X.K M A δ B d)) (hs : swapsWith e none pos.line X.env = pure false := by rfl) : PS X (.Expr e pos) (tO X.K M A δ (.nx B δ)) := ps_imp (ps_expr he hs) fun E σ H ⟨s, q⟩ => ⟨s, fun v H1 k1 b1 r1 => q σ H1 k1 b1 (s.s.kp k1)⟩
theorem s_break : PS X (.Break pos) (tO X.K M A δ (.bk A δ)) := ps_imp ps_break fun E σ H ⟨s, q⟩ => q σ H (Kp.refl H) s.a s.s
theorem s_if {c : Expr} {t f : List Stmt} {k : Bool} (hc : PT X c (tCT X.K M A δ B k)) (ht : k = true → PSs X t (tO X.K M B δ ou)) (hf : k = false → PSs X f (tO X.K M B δ ou)) : PS X (.If c t f pos) (tO X.K M A δ ou) := by
  cases k with
  | true => exact ps_imp (ps_if hc (ht rfl) pss_never) fun E σ H ⟨s, q⟩ => ⟨s, fun H1 k1 b1 => by
      refine iteT ?_
      exact ⟨s.kp k1 b1, Out.ok_kp k1 q⟩⟩
  | false => exact ps_imp (ps_if hc pss_never (hf rfl)) fun E σ H ⟨s, q⟩ => ⟨s, fun H1 k1 b1 => by
      refine iteF ?_
      exact ⟨s.kp k1 b1, Out.ok_kp k1 q⟩⟩
/-- an if whose test is false, without else -/
theorem s_ifF {c : Expr} {t : List Stmt} (hc : PT X c (tCT X.K M A δ B false)) : PS X (.If c t [] pos) (tO X.K M A δ (.nx B δ)) := s_if hc (fun h => by cases h) fun _ => ss_nil
theorem s_ifT {c : Expr} {t f : List Stmt} (hc : PT X c (tCT X.K M A δ B true)) (ht : PSs X t (tO X.K M B δ ou)) : PS X (.If c t f pos) (tO X.K M A δ ou) := s_if hc (fun _ => ht) fun h => by cases h

/-! ### for -/
theorem s_for {body : List Stmt} {g : TG} {js : List Nat} {f : D → LS → Option LS} (k : Nat) (At : Nat → As) (δt : Nat → LS) (hp : PassesOwn (model X.prog X.w) X.A X.env X.xe) (hc : X.calm = true) {W : Hp → Prop} (hi : PIt X M tg iter A δ (At 0) W items) (hW : ∀ i H, (At i).p H → W H) (h0 : δ = δt 0) (hg : PG X tg g) (tgk : TgOk X.K g js f) (hk : k ≤ items.length)
    (turn : ∀ i d, i < k → items[i]? = some d → ∃ δ', f d (δt i) = some δ' ∧ PSs X body (tO X.K M (At i) δ' (.nx (At (i + 1)) (δt (i + 1)))))
    (last : (k = items.length ∧ ou = .nx (At k) (δt k)) ∨ ∃ d δ', items[k]? = some d ∧ f d (δt k) = some δ' ∧ ((∃ B' δ'', PSs X body (tO X.K M (At k) δ' (.bk B' δ'')) ∧ ou = .nx B' δ'') ∨ ∃ B' r, PSs X body (tO X.K M (At k) δ' (.rt B' r)) ∧ ou = .rt B' r))
    (hs : ∀ x, foldedSetIterable iter X.env x = pure x := by intro _; rfl) : PS X (.For tg iter body [] pos) (tO X.K M A δ ou) := by
  obtain ⟨wi, hpi, hwi⟩ := hi.ex
  refine ps_imp (ps_for hp hc hpi hg (pss_any (sts := body)) hs) fun E σ H ⟨s, q⟩ => ?_
  refine hwi σ H _ s fun J n G Y H1 k1 b1 w hn hGY => ?_
  obtain ⟨hG, hY⟩ := hGY M fun a h => .inl h
  have tr1 := tr_kp s.tr k1
  have q1 : Out.ok X.K M H1 E ou := Out.ok_kp k1 q
  refine for_it w (fun i σ' H' => i ≤ k ∧ Kp M H1 H' ∧ (At i).p H' ∧ RelS X.K M H' σ' (δt i)) ⟨Nat.zero_le _, Kp.refl _, b1, by rw [← h0]; exact s.s.kp k1⟩ (fun i σ' H' _ pv => hG H' pv.2.1 (hW i H' pv.2.2.1)) (fun i x σ2 H2 H3 hi2 pv y => ?_) fun σ2 H2 pv => ?_
  · obtain ⟨ik, k2, a2, s2⟩ := pv
    obtain ⟨sm, d, ed, rd⟩ := hY i H2 x H3 k2 y hi2
    have k3 : Kp M H1 H3 := k2.trans (.of_same sm)
    by_cases hik : i < k
    · obtain ⟨δ', ef, hb⟩ := turn i d hik ed
      refine tgk M x d _ δ' σ2 H3 _ ef rd (s2.kp (.of_same sm)) fun σ' s' _ => ?_
      exact ⟨_, hb, ⟨(At i).mono sm a2, tr_kp tr1 k3, s'⟩, fun σ4 H4 k4 a4 s4 => ⟨hik, k3.trans k4, a4, s4⟩⟩
    · have e : i = k := by omega
      subst e
      rcases last with ⟨e, _⟩ | ⟨d', δ', ed', ef, h⟩
      · exact absurd hi2 (by omega)
      · rw [ed] at ed'
        cases ed'
        refine tgk M x d _ δ' σ2 H3 _ ef rd (s2.kp (.of_same sm)) fun σ' s' _ => ?_
        rcases h with ⟨B', δ'', hb, e⟩ | ⟨B', r, hb, e⟩
        · subst e
          exact ⟨_, hb, ⟨(At i).mono sm a2, tr_kp tr1 k3, s'⟩, fun σ4 H4 k4 a4 s4 => q1 σ4 H4 (k3.trans k4) a4 s4⟩
        · subst e
          exact ⟨_, hb, ⟨(At i).mono sm a2, tr_kp tr1 k3, s'⟩, fun v H4 k4 a4 r4 => q1 v H4 (k3.trans k4) a4 r4⟩
  · obtain ⟨ik, k2, a2, s2⟩ := pv
    rcases last with ⟨e, eo⟩ | ⟨d', δ', ed', _⟩
    · subst eo
      rw [hn, ← e] at a2 s2
      exact q1 σ2 H2 k2 a2 s2
    · have := (List.getElem?_eq_some_iff.mp ed').1
      omega
end

/-! ### a pure def -/
/-- data in, data out; pre may look at the heap -/
def spF (K : PySem.W.Frag) (pre : Hp → List D → D → Prop) : Sp := fun vs H Q _ => ∃ (M : AS) (ds : List D) (d : D), Tr M H ∧ RpL K M H vs ds ∧ pre H ds d ∧ ∀ v H', Same H H' → Rp K M H' v d → Q v H'
theorem spF_ok {K : PySem.W.Frag} {M : AS} {A : As} {ds : List D} {d : D} {pre : Hp → List D → D → Prop} (h : ∀ H, A.p H → pre H ds d) : SpOk K M (spF K pre) A ds A d := fun H vs Q a t r q => ⟨M, ds, d, t, r, h H a, fun v H' e r' => q v H' (.of_same e) (A.mono e a) r'⟩
/-- an assertion: H0 stands, and what pre told then, still holds -/
def As.at (H0 : Hp) (φ : Hp → Prop) (hφ : ∀ {H H'}, Same H H' → φ H → φ H') (h0 : φ H0) : As := As.same H0
def startD (N : List Str) (ds : List D) : LS := ds.map some ++ List.replicate (N.length - ds.length) none
theorem RelS.start {K : PySem.W.Frag} {M : AS} {H : Hp} {N : List Str} : ∀ {vs : List V} {ds : List D}, RpL K M H vs ds → RelS K M H (start N vs) (startD N ds) := fun {vs ds} r => by
  refine ⟨by unfold L2.start startD; simp [r.length], fun i d h => ?_⟩
  unfold startD at h
  unfold L2.start
  by_cases hi : i < ds.length
  · rw [List.getElem?_append_left (by simpa using hi), List.getElem?_map] at h
    cases e : ds[i]? with
    | none =>
      rw [e] at h
      cases h
    | some d' =>
      rw [e] at h
      have e2 : d' = d := by simpa using h
      subst e2
      obtain ⟨v, ev, rv⟩ := r.get e
      refine ⟨v, ?_, rv⟩
      rw [List.getElem?_append_left (by rw [List.length_map, r.length]; exact hi), List.getElem?_map, ev] <;> rfl
  · rw [List.getElem?_append_right (by simpa using hi)] at h
    have hm : some d ∈ List.replicate (N.length - ds.length) (none : Option D) := List.mem_of_getElem? h
    have := List.eq_of_mem_replicate hm
    cases this
section
variable {P : Program} {w : World} {K : PySem.W.Frag} {mg : Str → Option Value} {base : Heap} {x qual : Str} {params : Arguments} {body : List Stmt} {scope : Scope} {dvs : List V} {kws : List (Str × V)} {f : Addr} {fd : FuncData}
/-- the end of a body: its outcome told as a value -/
def Out.val (B : As) (d : D) : Out → Prop
  | .rt B' d' => (∀ H, B'.p H → B.p H) ∧ d' = d
  | .nx B' _ => (∀ H, B'.p H → B.p H) ∧ d = .non
  | .bk _ _ => False
  | .all _ => False
  | .rx _ => False
theorem okF {N ps : List Str} {k : Nat} {pre : Hp → List D → D → Prop} (F : FunD K x qual params body scope dvs kws f fd) (S : FnScope N ps scope) (len : ∀ H ds d, pre H ds d → ds.length = ps.length) (mono : ∀ H H' ds d, Same H H' → pre H ds d → pre H' ds d)
    (hbody : ∀ (cdv : Value) (A : Around) (outer : List Env) (s : Shared) (H : Hp) (E : XK) (M : AS) (ds : List D) (d : D), Room k (A.deeper (envOfC qual scope s.heap.objs.size f cdv)) → pre H ds d →
      ∃ o : Out, o.val (As.same H) d ∧ PSs (cxOf CX0 P w K mg base N qual scope f cdv A outer s H E).nox body (tO K M (As.same H) (startD N ds) o)) : FnOk P w K mg base CX0 (k + 1) f fd ps (spF K pre) := by
  refine F.ok S (fun vs H Q E h => ?_) fun cdv A outer s H vs Q E hr h => ?_
  · obtain ⟨M, ds, d, t, r, hp, _⟩ := h
    rw [r.length]
    exact len H ds d hp
  · obtain ⟨M, ds, d, t, r, hp, q⟩ := h
    obtain ⟨o, ho, hb⟩ := hbody cdv A outer s H E M ds d hr hp
    refine ⟨_, hb.nox, ⟨Same.refl H, t, .start r⟩, ?_⟩
    cases o with
    | nx B δ =>
      obtain ⟨h1, rfl⟩ := ho
      exact fun σ' H' k b _ => q .non H' (h1 H' b) .non
    | rt B d' =>
      obtain ⟨h1, rfl⟩ := ho
      exact fun v H' k b rv => q v H' (h1 H' b) rv
    | bk B δ => exact ho.elim
    | all o => exact ho.elim
    | rx p => exact ho.elim
end
end Dx
set_option Elab.async false
set_option linter.all false
set_option maxRecDepth 100000
set_option maxHeartbeats 4000000
namespace Dx
open PySem PySem.Spec PyProof.Rows L2

/-- a def that keeps its promise, ready to be called -/
def Has (P : Program) (w : World) (K : PySem.W.Frag) (mg : Str → Option Value) (base : Heap) (k : Nat) (f : Addr) (ps : List Str) (sp : Sp) : Prop := ∃ fd, FnOk P w K mg base CX0 k f fd ps sp ∧ Binds K fd ps [] ∧ PySem.W.keepIn K (.ref f) = true
theorem Has.mono {P : Program} {w : World} {K : PySem.W.Frag} {mg : Str → Option Value} {base : Heap} {j k : Nat} {f : Addr} {ps : List Str} {sp : Sp} (h : Has P w K mg base j f ps sp) (l : j ≤ k) : Has P w K mg base k f ps sp := let ⟨fd, F, b, kp⟩ := h; ⟨fd, F.mono l, b, kp⟩
section
variable {X : Cx} {M : AS} {A B C G : As} {δ δ' : LS} {pos p p2 apos cpos : Pos} {x y z d : D} {a b e o tg iter : Expr} {items : List D}
theorem c_call {k : Nat} {f : Addr} {ps : List Str} {sp : Sp} {es : List Expr} {ds : List D} {n : Str} (F : Has X.prog X.w X.K X.mg X.base k f ps sp) (hr : Room k X.A) (hm : X.mg n = some (.ref f)) (ha : PA X (e :: es) (tCA X.K M A δ B ds)) (h : SpOk X.K M sp B ds C d)
    (hg : Gl X n := by rfl) (hdb : (n == ("__debug__" : Str)) = false := by decide) (he : starEach (e :: es) X.env = (false, eval e X.env) :: starEach es X.env := by rfl) (hpl : (backTo pos (starEach es X.env)).any (·.1) = false := by rfl) : PE X (.Call (.Name n p) (e :: es) [] pos) (tC X.K M A δ C d) := by
  obtain ⟨fd, F, hb, hk⟩ := F
  exact e_call F hr hm hk hb ha h hg hdb he hpl
theorem c_meth {k : Nat} {f : Addr} {ps : List Str} {sp : Sp} {es : List Expr} {ds : List D} {m : Str} {Cl q : Addr} {pl : Sem Bool} (cl : Cls X.K Cl) (hm : Meth X.K Cl m f) (F : Has X.prog X.w X.K X.mg X.base k f ps sp) (hr : Room k X.A) (ho : PE X o (tC X.K M A δ B (.ref q)))
    (hi : ∀ H, B.p H → ∃ dx fs, H q = some (.ins Cl dx fs) ∧ fs.lookup m = none) (ha : PA X (e :: es) (tCA X.K M B δ C ds)) (h : SpOk X.K M sp C (.ref q :: ds) G d)
    (hst : starEach (e :: es) X.env = (false, eval e X.env) :: starEach es X.env := by rfl) (hpl : (backTo pos (starEach es X.env)).any (·.1) = false := by rfl)
    (ht : eval (.Call (.Attribute o m apos) (e :: es) [] pos) X.env = (do
      let ov ← eval o X.env
      standAt apos.atName
      let (f, first) ← holding [ov] (getMethod ov m pl)
      callWith pos f first (backTo pos (starEach (e :: es) X.env)) (backToKw pos (keywordEach [] X.env))) := by rfl) : PE X (.Call (.Attribute o m apos) (e :: es) [] pos) (tC X.K M A δ G d) := by
  obtain ⟨fd, F, hb, hk⟩ := F
  exact e_meth cl hm F hr hb ho hi ha h hst hpl ht
theorem c_meth0 {k : Nat} {f : Addr} {ps : List Str} {sp : Sp} {m : Str} {Cl q : Addr} {pl : Sem Bool} (cl : Cls X.K Cl) (hm : Meth X.K Cl m f) (F : Has X.prog X.w X.K X.mg X.base k f ps sp) (hr : Room k X.A) (ho : PE X o (tC X.K M A δ B (.ref q)))
    (hi : ∀ H, B.p H → ∃ dx fs, H q = some (.ins Cl dx fs) ∧ fs.lookup m = none) (h : SpOk X.K M sp B [.ref q] G d)
    (ht : eval (.Call (.Attribute o m apos) [] [] pos) X.env = (do
      let ov ← eval o X.env
      standAt apos.atName
      let (f, first) ← holding [ov] (getMethod ov m pl)
      callWith pos f first (backTo pos (starEach [] X.env)) (backToKw pos (keywordEach [] X.env))) := by rfl) : PE X (.Call (.Attribute o m apos) [] [] pos) (tC X.K M A δ G d) := by
  obtain ⟨fd, F, hb, hk⟩ := F
  exact e_meth0 cl hm F hr hb ho hi h ht
theorem c_prop {k : Nat} {f : Addr} {ps : List Str} {sp : Sp} {Cl q pr : Addr} {n : Str} (cl : Cls X.K Cl) (hp : PropOf X.K Cl n pr f) (F : Has X.prog X.w X.K X.mg X.base k f ps sp) (hr : Room (k + 1) X.A) (ho : PE X e (tC X.K M A δ B (.ref q))) (hi : ∀ H, B.p H → ∃ dx fs, H q = some (.ins Cl dx fs))
    (h : SpOk X.K M sp B [.ref q] C d) (hab : attributeBase e n X.env (eval e X.env) = eval e X.env := by rfl) : PE X (.Attribute e n pos) (tC X.K M A δ C d) := by
  obtain ⟨fd, F, hb, hk⟩ := F
  exact e_prop cl hp F hr hb ho hi h hab

/-! ### isinstance with a built-in class -/
inductive TyD : D → String → Prop
  | non : TyD .non "NoneType" | bl (b : Bool) : TyD (.bl b) "bool" | int (i : Int) : TyD (.int i) "int" | str (x : Str) : TyD (.str x) "str" | lst (ds : List D) : TyD (.lst ds) "list" | tup (ds : List D) : TyD (.tup ds) "tuple"
theorem TyD.of {K : PySem.W.Frag} {H : Hp} {v : V} {T : String} (t : TyD d T) (r : Rp K M H v d) : TyX K H v (.type T) := by
  cases t with
  | non => cases r; exact .base .non
  | bl b => cases r; exact .base (.bl b)
  | int i => cases r; exact .base (.int i)
  | str x => cases r; exact .base (.str x)
  | lst ds =>
    obtain ⟨a, xs, rfl, h1, m1, l1⟩ := r.lst_inv
    exact .base (.lst h1)
  | tup ds =>
    obtain ⟨a, xs, rfl, h1, l1⟩ := r.tup_inv'
    exact .base (.tup h1)
theorem e_isi (T : String) {n : Str} {S : String} {k : Bool} (hm : X.mg "isinstance" = none) (hx : PE X a (tC X.K M A δ B d)) (hn : X.mg n = none) (ty : TyD d S) (hk : kitB S T = some k := by decide +kernel) (hv : bootBuiltins n = some (.type T) := by decide +kernel) (hg : Gl X "isinstance" := by rfl) (hgn : Gl X n := by rfl)
    (hnn : n ≠ "__name__" := by decide) (hdb : (n == ("__debug__" : Str)) = false := by decide) (he : starEach (a :: [.Name n p2]) X.env = (false, eval a X.env) :: starEach [.Name n p2] X.env := by rfl) (he2 : starEach (.Name n p2 :: []) X.env = (false, eval (.Name n p2) X.env) :: starEach [] X.env := by rfl) (hpl : (backTo pos (starEach [.Name n p2] X.env)).any (·.1) = false := by rfl) :
    PE X (.Call (.Name "isinstance" p) [a, .Name n p2] [] pos) (tC X.K M A δ B (.bl k)) :=
  pe_imp (pe_callB call_isi hg hm (by decide +kernel) (pa_cons hx (pa_cons (pe_bltn (v := .ty T) hgn hn hv rfl hnn hdb) pa_nil he2) he) (by decide) (by decide) he hpl) fun σ H Q ⟨s, q⟩ => ⟨s, fun v H1 k1 b1 r1 =>
    ⟨v, .ty T, .type S, .type T, k, rfl, .ty T, ty.of r1, kit_ty hk, q _ H1 k1 b1 (.bl k)⟩⟩
/-! ### list(range(n)); sorted(pairs) -/
theorem e_listRg {n : Int} (hc : X.calm = true) (hl : X.mg "list" = none) (hm : X.mg "range" = none) (h : PE X e (tC X.K M A δ B (.int n))) (h0 : 0 ≤ n) (h1 : n ≤ 16777216) (hg : Gl X "list" := by rfl) (hg2 : Gl X "range" := by rfl) (na : starEach [e] X.env = (false, eval e X.env) :: starEach [] X.env := by rfl)
    (na2 : starEach [.Call (.Name "range" p2) [e] [] pos] X.env = (false, eval (.Call (.Name "range" p2) [e] [] pos) X.env) :: starEach [] X.env := by rfl) : PE X (.Call (.Name "list" p) [.Call (.Name "range" p2) [e] [] pos] [] cpos) (tC X.K M A δ B (.lst (intsD n.toNat))) :=
  pe_imp (pe_listRg hc hg hl (prg_1 hg2 hm h na) na2) fun σ H Q ⟨s, q⟩ => ⟨s, fun v H1 k1 b1 r1 => by
    cases r1
    refine ⟨n, rfl, RgOk.of_le (Int.le_refl 0) h1 (by decide) h0, fun l hl => q _ _ (k1.trans (.new hl)) (B.mono (Same.new hl) b1) (.lst upd_same (tr_new (tr_kp s.tr k1) hl) ?_)⟩
    have e0 : n - 0 = n := Int.sub_zero n
    unfold rgV intsD
    rw [e0]
    have key : ∀ m : List Nat, RpL X.K M (upd H1 l (.lst (List.map (fun i : Nat => V.int (0 + (i : Int))) (List.range n.toNat)))) (m.map fun i : Nat => V.int (0 + (i : Int))) (m.map fun i : Nat => D.int (i : Int)) := by
      intro m
      induction m with
      | nil => exact .nil
      | cons i m ih =>
        refine .cons ?_ ih
        show Rp _ _ _ (.int (0 + (i : Int))) (.int (i : Int))
        rw [Int.zero_add]
        exact .int _
    exact key _⟩
def pairI (q : Int × Int) : D := .tup [.int q.1, .int q.2]
open Classical in
/-- the one sorted order of pairs -/
noncomputable def sortP (xs : List (Int × Int)) : List (Int × Int) := if h : ∃ l, SrtO.Srtd SrtO.lexB l ∧ SrtO.Stb SrtO.lexB l xs then h.choose else xs
theorem lexB_swo : SrtO.Swo SrtO.lexB := ⟨fun x y h => by
    have a := SrtO.lexB_iff.mp h
    refine SrtO.lexB_no.mpr ?_
    omega, fun x y z h1 h2 => by
    have a := SrtO.lexB_no.mp h1
    have b := SrtO.lexB_no.mp h2
    refine SrtO.lexB_no.mpr ?_
    omega⟩
theorem sortP_is {l xs : List (Int × Int)} (h1 : SrtO.Srtd SrtO.lexB l) (h2 : SrtO.Stb SrtO.lexB l xs) : sortP xs = l := by
  unfold sortP
  have h : ∃ l, SrtO.Srtd SrtO.lexB l ∧ SrtO.Stb SrtO.lexB l xs := ⟨l, h1, h2⟩
  rw [dif_pos h]
  obtain ⟨g1, g2⟩ := h.choose_spec
  exact SrtO.stb_uniq lexB_swo g1 h1 ⟨g2.perm.trans h2.perm.symm, fun z => (g2.cls z).trans (h2.cls z).symm⟩
/-- what the pair at v is -/
def pairAt (H : Hp) (v : V) : Int × Int := match v with
  | .ref t => (match H t with
    | some (.tup [.int i, .int j]) => (i, j)
    | _ => (0, 0))
  | _ => (0, 0)
theorem pairs_at {K : PySem.W.Frag} {H : Hp} : ∀ {ps : List (Int × Int)} {vs : List V}, RpL K M H vs (ps.map pairI) → vs.map (pairAt H) = ps ∧ ∀ v ∈ vs, ∃ t, v = V.ref t ∧ H t = some (.tup [.int (pairAt H v).1, .int (pairAt H v).2])
  | [], vs, r => by
    cases r
    exact ⟨rfl, fun v h => by simp at h⟩
  | p :: ps, _, r => by
    cases r with
    | cons r1 r2 =>
      rename_i v vs
      obtain ⟨i1, i2⟩ := pairs_at r2
      obtain ⟨a, xs, rfl, ht, l1⟩ := r1.tup_inv'
      have key : xs = [.int p.1, .int p.2] := by
        cases l1 with
        | cons l1 l2 =>
          cases l2 with
          | cons l2 l3 =>
            cases l3
            cases l1
            cases l2
            rfl
      subst key
      have ep : pairAt H (.ref a) = p := by
        show (match H a with
          | some (.tup [.int i, .int j]) => (i, j)
          | _ => ((0 : Int), (0 : Int))) = p
        rw [ht]
      refine ⟨by rw [List.map_cons, i1, ep], fun w hw => ?_⟩
      rcases List.mem_cons.mp hw with rfl | hw
      · exact ⟨a, rfl, by rw [ep]; exact ht⟩
      · exact i2 w hw
theorem pairs_of {K : PySem.W.Frag} {H : Hp} : ∀ {vs : List V}, (∀ v ∈ vs, ∃ t, v = V.ref t ∧ H t = some (.tup [.int (pairAt H v).1, .int (pairAt H v).2])) → RpL K M H vs ((vs.map (pairAt H)).map pairI)
  | [], _ => .nil
  | v :: vs, h => by
    obtain ⟨t, rfl, ht⟩ := h v (List.mem_cons.mpr (.inl rfl))
    exact .cons (.tup ht (.cons (.int _) (.cons (.int _) .nil))) (pairs_of fun w hw => h w (List.mem_cons.mpr (.inr hw)))
theorem e_sortedP {ps : List (Int × Int)} (hm : X.mg "sorted" = none) (h : PE X e (tC X.K M A δ B (.lst (ps.map pairI)))) (hg : Gl X "sorted" := by rfl) (hs : starEach (e :: []) X.env = (false, eval e X.env) :: starEach [] X.env := by rfl) (hpl : (backTo pos (starEach [] X.env)).any (·.1) = false := by rfl) :
    PE X (.Call (.Name "sorted" p) [e] [] pos) (tC X.K M A δ B (.lst ((sortP ps).map pairI))) :=
  e_callB cr_sortedPO (a_one h hs) (fun H vs c t r Q q => by
    cases r with
    | cons r1 r2 =>
      cases r2
      obtain ⟨a, xs, rfl, h1, m1, l1⟩ := r1.lst_inv
      obtain ⟨g1, g2⟩ := pairs_at l1
      refine ⟨a, xs, pairAt H, rfl, SqL.of h1, g2, fun ys p hs hb hp => q _ _ (Same.new hp) (.lst upd_same (tr_new t hp) (Same.newK hp ?_))⟩
      have hb' : SrtO.Stb SrtO.lexB (ys.map (pairAt H)) ps := by
        rw [← g1]
        exact SrtO.Stb.map lexB_swo (pairAt H) hb
      rw [sortP_is (SrtO.srtd_map hs) hb']
      exact pairs_of fun v hv => g2 v (hb.perm.mem_iff.mp hv)) hm (by decide +kernel) hg (by decide) (by decide) hs hpl
end

/-! ### == of data -/
mutual
def toPy : D → PyData
  | .non => .none
  | .bl b => .bool b
  | .int i => .int i
  | .str x => .str x
  | .tup ds => .tuple (toPyL ds)
  | .ktup ds => .tuple (toPyL ds)
  | .lst ds => .list (toPyL ds)
  | .ref _ => .none
def toPyL : List D → List PyData
  | [] => []
  | d :: ds => toPy d :: toPyL ds
end
mutual
def plainD : D → Bool
  | .tup ds => plainL ds
  | .ktup ds => plainL ds
  | .lst ds => plainL ds
  | .ref _ => false
  | _ => true
def plainL : List D → Bool
  | [] => true
  | d :: ds => plainD d && plainL ds
end
section
variable {K : PySem.W.Frag} {M : AS} {H : Hp}
mutual
theorem Rp.dp : ∀ (d : D) (v : V), plainD d = true → Rp K M H v d → Dp K H v (toPy d)
  | .non, _, _, h => by cases h; exact .non
  | .bl b, _, _, h => by cases h; exact .bl b
  | .int i, _, _, h => by cases h; exact .int i
  | .str x, _, _, h => by cases h; exact .str x
  | .ref a, _, p, h => by cases p
  | .tup ds, _, p, h => by
    cases h with
    | tup e r => exact .tup (SqT.of e) (RpL.dp ds _ p r)
  | .ktup ds, _, p, h => by
    cases h with
    | ktup e r => exact .tup (e H) (RpL.dp ds _ p r)
  | .lst ds, _, p, h => by
    cases h with
    | lst e m r => exact .lst (SqL.of e) (RpL.dp ds _ p r)
theorem RpL.dp : ∀ (ds : List D) (vs : List V), plainL ds = true → RpL K M H vs ds → DpAll K H vs (toPyL ds)
  | [], _, _, h => by cases h; exact .nil
  | d :: ds, _, p, h => by
    have p' : (plainD d && plainL ds) = true := p
    obtain ⟨p1, p2⟩ := Bool.and_eq_true_iff.mp p'
    cases h with
    | cons a b => exact .cons (Rp.dp d _ p1 a) (RpL.dp ds _ p2 b)
end
end
section
variable {X : Cx} {M : AS} {A B C G : As} {δ δ' : LS} {pos : Pos} {x y : D} {a b : Expr}
theorem e_eqD {k : Bool} (hu : X.A.units + 64 < cLine) (ha : PE X a (tC X.K M A δ B x)) (hb : PE X b (tC X.K M B δ C y)) (px : plainD x = true) (py : plainD y = true) (sx : SeqAt.shaped (toPy x) = true) (sy : SeqAt.shaped (toPy y) = true) (e : PyData.eqv (toPy x) (toPy y) = k) :
    PE X (.Compare a [.Eq] [b] pos) (tC X.K M A δ C (.bl k)) := e_cmp (op_eqD hu) ha hb fun H v w c t r1 r2 Q q => ⟨_, _, r1.dp x v px, r2.dp y w py, sx, sy, by rw [e]; exact q _ H (Same.refl H) (.bl k)⟩
theorem e_neD {k : Bool} (hu : X.A.units + 64 < cLine) (ha : PE X a (tC X.K M A δ B x)) (hb : PE X b (tC X.K M B δ C y)) (px : plainD x = true) (py : plainD y = true) (sx : SeqAt.shaped (toPy x) = true) (sy : SeqAt.shaped (toPy y) = true) (e : PyData.eqv (toPy x) (toPy y) = k) :
    PE X (.Compare a [.NotEq] [b] pos) (tC X.K M A δ C (.bl (!k))) := e_cmp (op_neD hu) ha hb fun H v w c t r1 r2 Q q => ⟨_, _, r1.dp x v px, r2.dp y w py, sx, sy, by rw [e]; exact q _ H (Same.refl H) (.bl _)⟩

theorem t_eqD {k : Bool} (hu : X.A.units + 64 < cLine) (ha : PE X a (tC X.K M A δ B x)) (hb : PE X b (tC X.K M B δ C y)) (px : plainD x = true) (py : plainD y = true) (sx : SeqAt.shaped (toPy x) = true) (sy : SeqAt.shaped (toPy y) = true) (e : PyData.eqv (toPy x) (toPy y) = k) :
    PT X (.Compare a [.Eq] [b] pos) (tCT X.K M A δ C k) := t_cmp (op_eqD hu) ha hb fun H v w c t r1 r2 Q q => ⟨_, _, r1.dp x v px, r2.dp y w py, sx, sy, by rw [e]; exact q _ H (Same.refl H) (.bl k)⟩
theorem t_neD {k : Bool} (hu : X.A.units + 64 < cLine) (ha : PE X a (tC X.K M A δ B x)) (hb : PE X b (tC X.K M B δ C y)) (px : plainD x = true) (py : plainD y = true) (sx : SeqAt.shaped (toPy x) = true) (sy : SeqAt.shaped (toPy y) = true) (e : PyData.eqv (toPy x) (toPy y) = k) :
    PT X (.Compare a [.NotEq] [b] pos) (tCT X.K M A δ C (!k)) := t_cmp (op_neD hu) ha hb fun H v w c t r1 r2 Q q => ⟨_, _, r1.dp x v px, r2.dp y w py, sx, sy, by rw [e]; exact q _ H (Same.refl H) (.bl _)⟩

/-! ### a target that is a field -/
theorem pg_fldX {o : Expr} {f : Str} {p : Pos} {to : TE} (ho : PE X o to) : PG X (.Attribute o f p) (fun v σ H Q => to σ H fun x H1 => ∃ a C dx fs, x = .ref a ∧ H1 a = some (.ins C dx fs) ∧ Cls X.K C ∧ NoAttr X.K C f ∧ fs.length < 1000 ∧ Q σ (upd H1 a (.ins C dx (putF f v fs)))) := by
  refine ⟨fun pins s σ H v u Q I r h => ?_⟩
  have ha : assign (.Attribute o f p) X.env u = (do
    let ov ← holding [u] (eval o X.env)
    standAt p.atName
    holding [u, ov] (setAttr ov f u)
    release [u, ov] []) := by
    unfold assign
    rfl
  rw [ha]
  refine wpAny_bind (wpAny_holding (thn (ho.run pins s σ H _ I h) fun ov s1 ⟨x, H1, I1, r1, a, C, dx, fs, ex, ea, c, n, l, q1⟩ => ?_))
  subst ex
  obtain rfl : ov = Value.ref a := r1
  refine wpAny_bind (wpAny_standAt (wpAny_bind (wpAny_holding (setattr_ok I1 ea c n l r fun s2 I2 => ?_))))
  exact wpAny_release ⟨σ, _, I2, q1⟩
end
end Dx
set_option Elab.async false
set_option linter.all false
set_option maxRecDepth 100000
set_option maxHeartbeats 4000000
namespace Dx
open PySem PySem.Spec PyProof.Rows L2
/-! ### lists that are being made: data without lists in them -/
mutual
def flatD : D → Bool
  | .tup ds => flatL ds
  | .ktup ds => flatL ds
  | .lst _ => false
  | _ => true
def flatL : List D → Bool
  | [] => true
  | d :: ds => flatD d && flatL ds
end
section
variable {K : PySem.W.Frag} {M M' : AS} {H H' : Hp}
mutual
theorem Rp.flat (k : ∀ a xs, H a = some (.tup xs) → H' a = some (.tup xs)) : ∀ (d : D) (v : V), flatD d = true → Rp K M H v d → Rp K M' H' v d
  | .non, _, _, h => by cases h; exact .non
  | .bl b, _, _, h => by cases h; exact .bl b
  | .int i, _, _, h => by cases h; exact .int i
  | .str x, _, _, h => by cases h; exact .str x
  | .ref a, _, _, h => by cases h; exact .ref a
  | .tup ds, _, p, h => by
    cases h with
    | tup e r => exact .tup (k _ _ e) (RpL.flat k ds _ p r)
  | .ktup ds, _, p, h => by
    cases h with
    | ktup e r => exact .ktup e (RpL.flat k ds _ p r)
  | .lst ds, _, p, h => by cases p
theorem RpL.flat (k : ∀ a xs, H a = some (.tup xs) → H' a = some (.tup xs)) : ∀ (ds : List D) (vs : List V), flatL ds = true → RpL K M H vs ds → RpL K M' H' vs ds
  | [], _, _, h => by cases h; exact .nil
  | d :: ds, _, p, h => by
    have p' : (flatD d && flatL ds) = true := p
    obtain ⟨p1, p2⟩ := Bool.and_eq_true_iff.mp p'
    cases h with
    | cons a b => exact .cons (Rp.flat k d _ p1 a) (RpL.flat k ds _ p2 b)
end
end
theorem flatL_append : ∀ {ds es : List D}, flatL ds = true → flatL es = true → flatL (ds ++ es) = true
  | [], _, _, h => h
  | d :: ds, es, h, k => by
    have h' : (flatD d && flatL ds) = true := h
    obtain ⟨p1, p2⟩ := Bool.and_eq_true_iff.mp h'
    show (flatD d && flatL (ds ++ es)) = true
    rw [p1, flatL_append p2 k] <;> rfl
theorem flatL_set {d : D} (hd : flatD d = true) : ∀ {ds : List D} (i : Nat), flatL ds = true → flatL (ds.set i d) = true
  | [], _, h => h
  | d0 :: ds, 0, h => by
    have h' : (flatD d0 && flatL ds) = true := h
    obtain ⟨p1, p2⟩ := Bool.and_eq_true_iff.mp h'
    show (flatD d && flatL ds) = true
    rw [hd, p2] <;> rfl
  | d0 :: ds, i + 1, h => by
    have h' : (flatD d0 && flatL ds) = true := h
    obtain ⟨p1, p2⟩ := Bool.and_eq_true_iff.mp h'
    show (flatD d0 && flatL (ds.set i d)) = true
    rw [p1, flatL_set hd i p2] <;> rfl
theorem flatL_strs : ∀ xs : List Str, flatL (xs.map D.str) = true
  | [] => rfl
  | x :: xs => flatL_strs xs
theorem flatL_ints : ∀ xs : List Int, flatL (xs.map D.int) = true
  | [] => rfl
  | x :: xs => flatL_ints xs
theorem flatL_get {d : D} : ∀ {ds : List D} {i : Nat}, flatL ds = true → ds[i]? = some d → flatD d = true
  | [], i, _, h => by simp at h
  | d0 :: ds, 0, f, h => by
    simp at h
    subst h
    exact (Bool.and_eq_true_iff.mp (show (flatD d0 && flatL ds) = true from f)).1
  | d0 :: ds, i + 1, f, h => flatL_get (ds := ds) (i := i) (Bool.and_eq_true_iff.mp (show (flatD d0 && flatL ds) = true from f)).2 (by simpa using h)
/-- at p a list of the flat data ds stands -/
def lstA (K : PySem.W.Frag) (p : Addr) (ds : List D) : As where
  p := fun H => flatL ds = true ∧ ∃ xs, H p = some (.lst xs) ∧ RpL K AS.no H xs ds
  L := fun a => a = p
  fr := fun f ⟨fl, xs, h, r⟩ => ⟨fl, xs, f.keep _ _ rfl h, r.flat f.tup ds xs fl⟩
  trk := fun {H a} ⟨f, xs, h, r⟩ l => by
    rw [l, h]
    exact fun z => by cases z
/-- a new list -/
def tN (K : PySem.W.Frag) (M : AS) (A : As) (δ : LS) (ds : List D) : TE := fun σ H Q => St0 K M A δ σ H ∧ ∀ p H' xs, H p = none → Kp M H H' → A.p H' → H' p = some (.lst xs) → RpL K M H' xs ds → Q (.ref p) H'
section
variable {X : Cx} {M : AS} {A B C G : As} {δ δ' : LS} {pos p p2 apos cpos : Pos} {x y z d : D} {a b e o tg iter : Expr} {items : List D}
theorem n_lst {es : List Expr} {ds : List D} (h : PA X es (tCA X.K M A δ A ds)) (hz : ds.length ≤ sizeLine := by exact Nat.le_trans (by decide : _ ≤ 100) (by decide)) : PE X (.List es pos) (tN X.K M A δ ds) :=
  pe_imp (pe_lst h) fun σ H Q ⟨s, q⟩ => ⟨s, fun vs H1 k1 b1 r1 => ⟨by rw [r1.length]; exact hz, fun p hp => q p _ vs (by
    cases e : H p with
    | none => rfl
    | some o => exact absurd hp (k1.trk p (by rw [e]; exact fun z => by cases z))) (k1.trans (.new hp)) (A.mono (Same.new hp) b1) upd_same (Same.newK hp r1)⟩⟩
theorem n_listL {ds : List D} (hm : X.mg "list" = none) (h : PE X e (tC X.K M A δ A (.lst ds))) (hg : Gl X "list" := by rfl) (hs : starEach (e :: []) X.env = (false, eval e X.env) :: starEach [] X.env := by rfl) (hpl : (backTo pos (starEach [] X.env)).any (·.1) = false := by rfl) :
    PE X (.Call (.Name "list" p) [e] [] pos) (tN X.K M A δ ds) :=
  pe_imp (pe_callTy call_list_of hg hm (by decide +kernel) (a_one h hs) (by decide) (by decide) hs hpl) fun σ H Q ⟨s, q⟩ => ⟨s, fun vs H1 k1 b1 r1 => by
    cases r1 with
    | cons r1 r2 =>
      cases r2
      obtain ⟨a, xs, rfl, h1, m1, l1⟩ := r1.lst_inv
      exact ⟨a, xs, rfl, .inl (SqL.of h1), fun p hp => q p _ xs (by
        cases e : H p with
        | none => rfl
        | some o => exact absurd hp (k1.trk p (by rw [e]; exact fun z => by cases z))) (k1.trans (.new hp)) (A.mono (Same.new hp) b1) upd_same (Same.newK hp l1)⟩⟩
/-- how what comes out while the list at p is being made is told outside -/
inductive OwnTo (K : PySem.W.Frag) (p : Addr) : Out → Out → Prop
  | rtL {B C : As} {ds : List D} : (∀ H, B.p H → C.p H ∧ (lstA K p ds).p H) → OwnTo K p (.rt B (.ref p)) (.rt C (.lst ds))
  | rtD {B C : As} {d : D} : (∀ H, B.p H → C.p H) → OwnTo K p (.rt B d) (.rt C d)
  | nx {B C : As} {δ : LS} {ds : List D} (i : Nat) : δ[i]? = some (some (.ref p)) → (∀ H, B.p H → C.p H ∧ (lstA K p ds).p H) → OwnTo K p (.nx B δ) (.nx C (δ.set i (some (.lst ds))))
  | nxD {B C : As} {δ : LS} : (∀ H, B.p H → C.p H) → OwnTo K p (.nx B δ) (.nx C δ)
theorem OwnTo.ok {K : PySem.W.Frag} {q : Addr} {o ou : Out} {H H1 : Hp} {E : Ends} (t : OwnTo K q o ou) (nM : ¬ M.x q) (hq : H q = none) (k : Kp (M.own q) H H1) (h : ou.ok K M H E) : o.ok K (M.own q) H1 E := by
  have fw : ∀ {H'}, Kp (M.own q) H1 H' → Kp M H H' := fun k2 => (k.trans k2).fewer (M := M) fun a (z : M.c a ∨ a = q) => z.elim Or.inl fun z => Or.inr (by rw [z]; exact hq)
  have ls : ∀ a, M.x a → (M.own q).x a := fun a z => (show M.x a ∨ a = q from Or.inl z)
  cases t with
  | rtL hi =>
    exact fun v H' k2 b r => by
      cases r
      obtain ⟨c, f, xs, e, l⟩ := hi H' b
      exact h _ H' (fw k2) c (.lst e nM (l.flat (fun _ _ z => z) _ xs f))
  | rtD hi => exact fun v H' k2 b r => h v H' (fw k2) (hi H' b) (r.less ls _ v)
  | nx i hi hb =>
    exact fun σ' H' k2 b r => by
      obtain ⟨c, f, xs, e, l⟩ := hb H' b
      refine h σ' H' (fw k2) c ⟨by rw [List.length_set]; exact r.1, fun j d hj => ?_⟩
      by_cases z : i = j
      · subst z
        obtain ⟨v, ev, rv⟩ := r.2 i _ hi
        cases rv
        have hlt := (List.getElem?_eq_some_iff.mp hi).1
        rw [List.getElem?_set_self hlt] at hj
        cases hj
        exact ⟨_, ev, .lst e nM (l.flat (fun _ _ z => z) _ xs f)⟩
      · rw [List.getElem?_set_ne z] at hj
        obtain ⟨v, ev, rv⟩ := r.2 j d hj
        exact ⟨v, ev, rv.less ls d v⟩
  | nxD hi => exact fun σ' H' k2 b r => h σ' H' (fw k2) (hi H' b) (r.less ls)
variable {st : Stmt} {rest sts : List Stmt} {ou : Out}
theorem own_start {ds : List D} {σ : L2.St} {H H1 : Hp} {q : Addr} {xs : List V} {i : Nat} (s : St0 X.K M A δ σ H) (hq : H q = none) (k1 : Kp M H H1) (a1 : A.p H1) (e1 : H1 q = some (.lst xs)) (r1 : RpL X.K M H1 xs ds) (hf : flatL ds = true) :
    St0 X.K (M.own q) (A.and (lstA X.K q ds)) (δ.set i (some (.ref q))) (σ.set i (some (.ref q))) H1 ∧ ¬ M.x q ∧ ¬ A.L q ∧ Kp (M.own q) H H1 := by
  have nM : ¬ M.x q := fun z => s.tr q z hq
  have mr : ∀ a, (M.own q).x a → M.x a ∨ H a = none := fun a (z : M.x a ∨ a = q) => z.elim Or.inl fun z => Or.inr (by rw [z]; exact hq)
  have kl : Kp (M.own q) H H1 := k1.less (M' := M.own q) fun a z => (show M.c a ∨ a = q from Or.inl z)
  refine ⟨⟨⟨a1, hf, xs, e1, r1.flat (fun _ _ z => z) ds xs hf⟩, fun a (z : M.x a ∨ a = q) => z.elim (fun m => k1.trk a (s.tr a m)) fun z => by rw [z, e1]; exact fun w => (by cases w), ?_⟩, nM, fun z => A.trk s.a z hq, kl⟩
  exact ((s.s.more mr).kp kl).set i (.ref q)
/-- x = a new list, which is made on by what follows -/
theorem ss_new {ds : List D} {n : Str} {pos' : Pos} (i : Nat) (o : Addr → Out) (hN : X.N.Nodup) (he : PE X e (tN X.K M A δ ds)) (hf : flatL ds = true) (hr : ∀ q, ¬ M.x q → ¬ A.L q → PSs X rest (tO X.K (M.own q) (A.and (lstA X.K q ds)) (δ.set i (some (.ref q))) (o q)) ∧ OwnTo X.K q (o q) ou)
    (hi : X.N[i]? = some n := by rfl) (hx : Loc X.env.scope n := by first | exact Or.inl rfl | exact Or.inr rfl) (hs : swapsWith e (some (.Name n pos')) pos.line X.env = pure false := by rfl)
    (hfn : X.fn n = true ∨ X.env.scope.names.lookup n = some .local := by first | exact .inl rfl | exact .inr rfl) : PSs X (.Assign [.Name n pos'] e pos :: rest) (tO X.K M A δ ou) :=
  pss_imp (pss_cons (ps_set (i := i) hN hi hx he hs hfn) (pss_any (sts := rest))) fun E σ H ⟨s, h⟩ => ⟨s, fun q H1 xs hq k1 a1 e1 r1 => by
    obtain ⟨st1, nM, nL, kl⟩ := own_start (i := i) s hq k1 a1 e1 r1 hf
    obtain ⟨h1, h2⟩ := hr q nM nL
    exact ⟨_, h1, st1, h2.ok nM hq kl h⟩⟩
/-- x, y = a new list, [] -/
theorem ss_newPar {ds : List D} {n m : Str} {px py pt lp : Pos} {kt k2 pt2} (i j : Nat) (o : Addr → Addr → Out) (hc : X.calm = true) (hN : X.N.Nodup) (hi : X.N[i]? = some n) (hj : X.N[j]? = some m) (hij : i ≠ j) (hx : X.env.scope.names.lookup n = some .local) (hy : X.env.scope.names.lookup m = some .local)
    (he : PE X a (tN X.K M A δ ds)) (hf : flatL ds = true) (hr : ∀ q r, q ≠ r → ¬ M.x q → ¬ A.L q → ¬ M.x r → ¬ A.L r → ∃ o', PSs X rest (tO X.K ((M.own q).own r) ((A.and (lstA X.K q ds)).and (lstA X.K r [])) ((δ.set i (some (.ref q))).set j (some (.ref r))) (o q r)) ∧ OwnTo X.K r (o q r) o' ∧ OwnTo X.K q o' ou)
    (hw : swappedStores [.Tuple [.Name n px, .Name m py] kt pt] (.Tuple [a, .List [] lp] k2 pt2) X.env = pure (some [n, m])) (ha : starEach (a :: [.List [] lp]) X.env = (false, eval a X.env) :: starEach [.List [] lp] X.env := by rfl) (hs : swapsWithSole [.Tuple [.Name n px, .Name m py] kt pt] (.Tuple [a, .List [] lp] k2 pt2) pos.line X.env = pure false := by rfl) :
    PSs X (.Assign [.Tuple [.Name n px, .Name m py] kt pt] (.Tuple [a, .List [] lp] k2 pt2) pos :: rest) (tO X.K M A δ ou) :=
  pss_imp (pss_cons (ps_par hc hN hi hj hij hx hy (pa_cons he (pa_cons (pe_lst pa_nil) pa_nil) ha) hw) (pss_any (sts := rest))) fun E σ H ⟨s, h⟩ => ⟨s, fun q H1 xs hq k1 a1 e1 r1 => by
    refine ⟨Nat.zero_le _, fun r hr1 => ⟨_, _, rfl, ?_⟩⟩
    have nqr : q ≠ r := ne_of_none e1 hr1
    have hrH : H r = none := by
      cases e : H r with
      | none => rfl
      | some o => exact absurd hr1 (k1.trk r (by rw [e]; exact fun z => by cases z))
    obtain ⟨st1, nM, nL, kl⟩ := own_start (i := i) s hq k1 a1 e1 r1 hf
    have st2 : St0 X.K (M.own q) (A.and (lstA X.K q ds)) (δ.set i (some (.ref q))) (σ.set i (some (.ref q))) H1 := st1
    obtain ⟨st3, nM3, nL3, kl3⟩ := own_start (i := j) (ds := []) st2 hr1 (.new hr1) ((A.and (lstA X.K q ds)).mono (Same.new hr1) st1.a) upd_same .nil rfl
    obtain ⟨o', h1, h2, h3⟩ := hr q r nqr nM nL (fun z => s.tr r z hrH) (fun z => A.trk s.a z hrH)
    exact ⟨_, h1, st3, h2.ok nM3 hr1 kl3 (h3.ok nM hq kl h)⟩⟩
/-- asking such a list -/
theorem e_oix {q : Addr} {ds : List D} {i : Int} (ha : PE X a (tC X.K M A δ B (.ref q))) (hb : PE X b (tC X.K M B δ C (.int i))) (hl : ∀ H, C.p H → (lstA X.K q ds).p H) (h : atI ds i = some d) (hs : PlainIx b := by exact fun _ _ => rfl) : PE X (.Subscript a b pos) (tC X.K M A δ C d) :=
  e_ix ix_list ha hb (fun H v w c t r1 r2 Q q => by
    cases r1
    cases r2
    obtain ⟨f, xs, e1, l1⟩ := hl H c
    obtain ⟨u, e2, ru⟩ := l1.atI h
    have fd : flatD d = true := by
      unfold L2.atI at h
      cases e : ixN ds.length i with
      | none =>
        rw [e] at h
        cases h
      | some j =>
        rw [e] at h
        exact flatL_get (i := j) f h
    exact ⟨_, xs, i, u, rfl, rfl, SqL.of e1, e2, q _ H (Same.refl H) (ru.flat (fun _ _ z => z) d u fd)⟩) hs
theorem e_olen {q : Addr} {ds : List D} (hm : X.mg "len" = none) (h : PE X e (tC X.K M A δ B (.ref q))) (hl : ∀ H, B.p H → (lstA X.K q ds).p H) (hg : Gl X "len" := by rfl) (hs : starEach (e :: []) X.env = (false, eval e X.env) :: starEach [] X.env := by rfl) (hpl : (backTo pos (starEach [] X.env)).any (·.1) = false := by rfl) : PE X (.Call (.Name "len" p) [e] [] pos) (tC X.K M A δ B (.int ds.length)) :=
  e_callB call_len (a_one h hs) (fun H vs c t r Q q => by
    cases r with
    | cons r1 r2 =>
      cases r2
      cases r1
      obtain ⟨f, xs, e1, l1⟩ := hl H c
      exact ⟨_, ds.length, rfl, .inl ⟨xs, SqL.of e1, l1.length.symm⟩, q _ H (Same.refl H) (.int _)⟩) hm PySem.boot_len hg (by decide) (by decide) hs hpl
/-- such a list as an argument: data for the callee -/
theorem thaw {K : PySem.W.Frag} {q : Addr} {ds : List D} {H : Hp} {v : V} (r : Rp K (M.own q) H v (.ref q)) (nM : ¬ M.x q) (h : (lstA K q ds).p H) : Rp K M H v (.lst ds) := by
  cases r
  obtain ⟨f, xs, e1, l1⟩ := h
  exact .lst e1 nM (l1.flat (fun _ _ z => z) ds xs f)
/-- changing it -/
theorem s_oapp {qa : Addr} {ds : List D} (ho : PE X o (tC X.K M A δ B (.ref qa))) (he : PE X e (tC X.K M B δ C d)) (hq : M.c qa) (hb : ∀ H, B.p H → (lstA X.K qa ds).p H) (hl : ∀ H, C.p H → (lstA X.K qa ds).p H) (hd : flatD d = true) (hz : ds.length < sizeLine) (hG : ∀ H xs ys, C.p H → H qa = some (.lst xs) → (lstA X.K qa (ds ++ [d])).p (upd H qa (.lst ys)) → G.p (upd H qa (.lst ys)))
    (hbase : attributeBase o "append" X.env (eval o X.env) = eval o X.env := by rfl)
    (hfew : ((backTo cpos (starEach (e :: []) X.env)).all (fun x => !x.1) && (backToKw cpos (keywordEach [] X.env)).all (fun x => x.1.isSome) && decide ((e :: []).length + ([] : List Keyword).length + (if ([] : List Keyword).isEmpty then 0 else 1) < 30)) = true := by rfl)
    (hline : (apos.endLine == cpos.line) = true := by rfl) (hs : starEach (e :: []) X.env = (false, eval e X.env) :: starEach [] X.env := by rfl) (hplain : (backTo cpos (starEach [] X.env)).any (·.1) = false := by rfl)
    (hsw : swapsWith (.Call (.Attribute o "append" apos) [e] [] cpos) none pos.line X.env = pure false := by rfl) : PS X (.Expr (.Call (.Attribute o "append" apos) [e] [] cpos) pos) (tO X.K M A δ (.nx G δ)) :=
  s_expr (d := .non) (e_bm PySem.F.plainAttrs_list PySem.F.slot_list_append PySem.F.type_list_append mt_append ho (a_one he hs) (fun H v b r => by
    cases r
    obtain ⟨f, xs, e1, l1⟩ := hb H b
    exact .inl ⟨rfl, xs, SqL.of e1⟩) (fun H v vs c t r1 r2 Q q => by
    have r1 := r1.ref_inv
    subst r1
    cases r2 with
    | cons r2 r3 =>
      rename_i y ys
      cases r3
      obtain ⟨f, xs, e1, l1⟩ := hl H c
      refine ⟨_, xs, y, rfl, rfl, e1, by rw [l1.length]; exact hz, q _ _ (.upd e1 (fun _ z => by cases z) (.inl hq)) (hG H xs _ c e1 ⟨flatL_append f (by show (flatD d && true) = true; rw [hd] <;> rfl), _, upd_same, ?_⟩) .non⟩
      have kt : ∀ b zs, H b = some (.tup zs) → upd H qa (.lst (xs ++ [y])) b = some (.tup zs) := fun b zs z => by
        rw [upd_ne (fun w => by rw [w, e1] at z; cases z)]
        exact z
      exact (l1.flat kt ds xs f).append (RpL.one (r2.flat kt d _ hd))) hbase hfew hline hs hplain) hsw
theorem s_oset {qa : Addr} {ds : List D} {i : Int} {k : Nat} (he : PE X e (tC X.K M A δ B d)) (ho : PE X a (tC X.K M B δ C (.ref qa))) (hi : PE X b (tC X.K M C δ G (.int i))) (hq : M.c qa) {E : As} (hl : ∀ H, G.p H → (lstA X.K qa ds).p H) (hd : flatD d = true) (hk : ixN ds.length i = some k)
    (hE : ∀ H xs ys, G.p H → H qa = some (.lst xs) → (lstA X.K qa (ds.set k d)).p (upd H qa (.lst ys)) → E.p (upd H qa (.lst ys))) (ha : ∀ v, assign (.Subscript a b p) X.env v = (do
      let ov ← holding [v] (eval a X.env)
      let iv ← holding [v, ov] (eval b X.env)
      standAt p
      holding [v, ov, iv] (setItem ov iv v)
      release [v, ov, iv] []) := by intro _; rfl)
    (hs : swapsWithSole [.Subscript a b p] e pos.line X.env = pure false := by rfl) (hw : swappedStores [.Subscript a b p] e X.env = pure none := by rfl) (h1 : (assignEach [.Subscript a b p] X.env).map (·.2) = [assign (.Subscript a b p) X.env] := by rfl) :
    PS X (.Assign [.Subscript a b p] e pos) (tO X.K M A δ (.nx E δ)) :=
  ps_imp (ps_asg he (pg_sub ho hi set_list ha) hs hw h1) fun D σ H ⟨s, q⟩ => ⟨s, fun v H1 k1 b1 r1 => ⟨s.kp k1 b1, fun w H2 k2 c2 r2 => ⟨(s.kp k1 b1).kp k2 c2, fun u H3 k3 g3 r3 => by
    cases r2
    cases r3
    obtain ⟨f, xs, e1, l1⟩ := hl H3 g3
    have k13 := (k1.trans k2).trans k3
    have rv := r1.kp (k2.trans k3) d v
    refine ⟨_, xs, i, k, rfl, rfl, e1, by rw [l1.length]; exact hk, ?_⟩
    have kp4 : Kp M H3 (upd H3 qa (.lst (xs.set k v))) := .upd e1 (fun _ z => by cases z) (.inl hq)
    have kt : ∀ b zs, H3 b = some (.tup zs) → upd H3 qa (.lst (xs.set k v)) b = some (.tup zs) := fun b zs z => by
      rw [upd_ne (fun w => by rw [w, e1] at z; cases z)]
      exact z
    refine q σ _ (k13.trans kp4) (hE H3 xs _ g3 e1 ⟨flatL_set hd k f, _, upd_same, (l1.flat kt ds xs f).set (rv.flat kt d v hd) k⟩) ((s.s.kp k13).kp kp4)⟩⟩⟩
/-! ### loops as folds that may be left -/
def foldB {α β : Type} (f : β → α → α ⊕ α) : List β → α → α
  | [], s => s
  | b :: bs, s => match f b s with
    | .inl s' => foldB f bs s'
    | .inr s' => s'
theorem s_forB {α β : Type} (f : β → α → α ⊕ α) (enc : β → D) (At : α → As) (δt : α → LS) (P : α → Prop) {body : List Stmt} {g : TG} {js : List Nat} {tf : D → LS → Option LS} (bs : List β) (s0 : α) (hp : PassesOwn (model X.prog X.w) X.A X.env X.xe) (hc : X.calm = true)
    {W : Hp → Prop} (hi : PIt X M tg iter A δ (At s0) W (bs.map enc)) (hW : ∀ s H, (At s).p H → W H) (h0 : δ = δt s0) (hP : P s0) (hg : PG X tg g) (tgk : TgOk X.K g js tf)
    (turn : ∀ b ∈ bs, ∀ s, P s → ∃ δ', tf (enc b) (δt s) = some δ' ∧ match f b s with
      | .inl s' => P s' ∧ PSs X body (tO X.K M (At s) δ' (.nx (At s') (δt s')))
      | .inr s' => PSs X body (tO X.K M (At s) δ' (.bk (At s') (δt s'))))
    (hs : ∀ x, foldedSetIterable iter X.env x = pure x := by intro _; rfl) : PS X (.For tg iter body [] pos) (tO X.K M A δ (.nx (At (foldB f bs s0)) (δt (foldB f bs s0)))) := by
  -- the states, and how many turns go on
  have key : ∀ (bs' : List β) (s : α), (∀ b ∈ bs', b ∈ bs) → P s → ∃ (k : Nat) (sq : Nat → α), sq 0 = s ∧ k ≤ bs'.length ∧ (∀ i, i ≤ k → P (sq i)) ∧ (∀ i b, i < k → bs'[i]? = some b → f b (sq i) = .inl (sq (i + 1))) ∧
      ((k = bs'.length ∧ foldB f bs' s = sq k) ∨ ∃ b, bs'[k]? = some b ∧ f b (sq k) = .inr (foldB f bs' s)) := by
    intro bs'
    induction bs' with
    | nil => intro s _ p; exact ⟨0, fun _ => s, rfl, Nat.le_refl _, fun _ _ => p, fun i b h => absurd h (Nat.not_lt_zero _), .inl ⟨rfl, rfl⟩⟩
    | cons b bs' ih =>
      intro s hb p
      obtain ⟨δ', _, h⟩ := turn b (hb b (by simp)) s p
      cases e : f b s with
      | inl s' =>
        rw [e] at h
        obtain ⟨k, sq, q0, q1, q2, q3, q4⟩ := ih s' (fun c hc => hb c (by simp [hc])) h.1
        refine ⟨k + 1, fun i => match i with
          | 0 => s
          | i + 1 => sq i, rfl, Nat.succ_le_succ q1, fun i hi => ?_, fun i c hi hc => ?_, ?_⟩
        · cases i with
          | zero => exact p
          | succ i => exact q2 i (Nat.le_of_succ_le_succ hi)
        · cases i with
          | zero =>
            simp at hc
            subst hc
            show f b s = .inl (sq 0)
            rw [e, q0]
          | succ i => exact q3 i c (Nat.lt_of_succ_lt_succ hi) (by simpa using hc)
        · have ef : foldB f (b :: bs') s = foldB f bs' s' := by
            show (match f b s with
              | .inl s' => foldB f bs' s'
              | .inr s' => s') = _
            rw [e]
          rw [ef]
          rcases q4 with ⟨z1, z2⟩ | ⟨c, z1, z2⟩
          · exact .inl ⟨congrArg (· + 1) z1, z2⟩
          · exact .inr ⟨c, by simpa using z1, z2⟩
      | inr s' =>
        have ef : foldB f (b :: bs') s = s' := by
          show (match f b s with
            | .inl s' => foldB f bs' s'
            | .inr s' => s') = _
          rw [e]
        exact ⟨0, fun _ => s, rfl, Nat.zero_le _, fun _ _ => p, fun i b h => absurd h (Nat.not_lt_zero _), .inr ⟨b, rfl, by rw [ef]; exact e⟩⟩
  obtain ⟨k, sq, q0, q1, q2, q3, q4⟩ := key bs s0 (fun _ h => h) hP
  refine s_for k (fun i => At (sq i)) (fun i => δt (sq i)) hp hc (W := W) (by rw [q0]; exact hi) (fun i => hW (sq i)) (by rw [q0]; exact h0) hg tgk (by rw [List.length_map]; exact q1) (fun i d hi' hd => ?_) ?_ hs
  · rw [List.getElem?_map] at hd
    cases eb : bs[i]? with
    | none =>
      rw [eb] at hd
      cases hd
    | some b =>
      rw [eb] at hd
      cases hd
      obtain ⟨δ', h1, h2⟩ := turn b (List.mem_of_getElem? eb) (sq i) (q2 i (Nat.le_of_lt hi'))
      rw [q3 i b hi' eb] at h2
      exact ⟨δ', h1, h2.2⟩
  · rcases q4 with ⟨z1, z2⟩ | ⟨b, z1, z2⟩
    · exact .inl ⟨by rw [List.length_map]; exact z1, by rw [z2]⟩
    · obtain ⟨δ', h1, h2⟩ := turn b (List.mem_of_getElem? z1) (sq k) (q2 k (Nat.le_refl _))
      rw [z2] at h2
      exact .inr ⟨enc b, δ', by rw [List.getElem?_map, z1]; rfl, h1, .inl ⟨_, _, h2, rfl⟩⟩
end
end Dx
set_option Elab.async false
set_option linter.all false
set_option maxRecDepth 100000
set_option maxHeartbeats 4000000
namespace RQ
open PySem PySem.Spec PyProof.Rows L2
def top (i : Nat) : Stmt := PySem.Challenge.pw_rowqueue_k07_whole_late_in_any_order.main.body.getD i (.Pass ⟨0, 0, 0, 0⟩)
abbrev s_ordered : Stmt := top 19
abbrev s_is_open : Stmt := top 20
abbrev s_is_barred : Stmt := top 21
abbrev s_batch : Stmt := top 22
abbrev s_is_integer : Stmt := top 24
abbrev s_fallen : Stmt := top 27
abbrev s_settled : Stmt := top 28
abbrev s_word_for : Stmt := top 29
abbrev s_taken_names : Stmt := top 30
abbrev s_is_remembered : Stmt := top 31
abbrev s_Change_init : Stmt := inClass (top 32) 0
abbrev s_Change_until : Stmt := inClass (top 32) 1
abbrev s_Change_result : Stmt := inClass (top 32) 2
abbrev s_Change_put_new : Stmt := inClass (top 32) 3
abbrev s_Change_moved : Stmt := inClass (top 32) 4
abbrev s_Change_tried : Stmt := inClass (top 32) 5
abbrev s_Change_take_many : Stmt := inClass (top 32) 6
abbrev s_Change_back_now : Stmt := inClass (top 32) 7
abbrev s_Change_by_token : Stmt := inClass (top 32) 8
abbrev s_Change_let_go : Stmt := inClass (top 32) 9
abbrev s_Change_effect_of : Stmt := inClass (top 32) 10
abbrev s_Change_follow_up : Stmt := inClass (top 32) 11
abbrev s_Queue_init : Stmt := inClass (top 33) 0
abbrev s_Queue_do : Stmt := inClass (top 33) 1
abbrev s_Queue_time : Stmt := inClass (top 33) 2
abbrev s_Queue_names : Stmt := inClass (top 33) 3
abbrev s_Queue_row : Stmt := inClass (top 33) 4
abbrev s_Queue_free : Stmt := inClass (top 33) 5
abbrev s_Queue_next_time : Stmt := inClass (top 33) 6
abbrev s_Queue_copied : Stmt := inClass (top 33) 7
abbrev s_is_part : Stmt := top 38
abbrev s_is_plan : Stmt := top 39
abbrev s_read_plan : Stmt := top 40
abbrev s_is_plan_text : Stmt := top 43
abbrev s_is_value : Stmt := top 44
abbrev s_is_line : Stmt := top 45
abbrev s_word_of : Stmt := top 46
abbrev s_first_bad : Stmt := top 47
abbrev s_number_or_word : Stmt := top 48
abbrev s_Setting_init : Stmt := inClass (top 49) 0
abbrev s_Setting_eq : Stmt := inClass (top 49) 1
abbrev s_Setting_order : Stmt := inClass (top 49) 5
abbrev s_Setting_skip : Stmt := inClass (top 49) 6
abbrev s_Setting_hold : Stmt := inClass (top 49) 7
abbrev s_Setting_fence : Stmt := inClass (top 49) 10
abbrev s_Setting_tries : Stmt := inClass (top 49) 11
abbrev s_Setting_counted : Stmt := inClass (top 49) 12
abbrev s_Setting_pause : Stmt := inClass (top 49) 13
abbrev s_Setting_dead : Stmt := inClass (top 49) 14
abbrev s_Setting_once : Stmt := inClass (top 49) 15
abbrev s_Book_init : Stmt := inClass (top 52) 0
abbrev s_Book_eq : Stmt := inClass (top 52) 1
abbrev s_Book_turn_to : Stmt := inClass (top 52) 3
abbrev s_Book_do : Stmt := inClass (top 52) 4
abbrev s_Book_late : Stmt := inClass (top 52) 5
abbrev s_Book_back : Stmt := inClass (top 52) 6
abbrev s_Book_log : Stmt := inClass (top 52) 8
abbrev s_Book_queue : Stmt := inClass (top 52) 9
abbrev s_Book_queue_at : Stmt := inClass (top 52) 10
abbrev s_l_bag : Stmt := top 54
abbrev s_l_take : Stmt := top 55
abbrev s_l_lines : Stmt := top 56
abbrev s_l_names : Stmt := top 57
abbrev s_l_shown : Stmt := top 58
abbrev s_l_some : Stmt := top 59
abbrev s_law : Stmt := top 60

/-! ### where the defs stand -/
def atG (x : Str) (K : PySem.W.Frag) : Addr := He.ga K x
def atM (C m : Str) (K : PySem.W.Frag) : Addr := He.ma K (He.ga K C) m
def propP (C f : Str) (K : PySem.W.Frag) : Addr := match PySem.W.findIn K (.ref (He.ga K C)) f with
  | some (some (.ref p)) => p
  | _ => 0
def propG (C f : Str) (K : PySem.W.Frag) : Addr := match PySem.W.recIn K (propP C f K) "property" with
  | some (.ref g :: _) => g
  | _ => 0
def d_ordered : He5.DefA := { at_ := atG "ordered", name := "ordered", qual := "ordered", params := defArgs s_ordered, body := defBody s_ordered, scope := defScope s_ordered }
def d_is_open : He5.DefA := { at_ := atG "is_open", name := "is_open", qual := "is_open", params := defArgs s_is_open, body := defBody s_is_open, scope := defScope s_is_open }
def d_is_barred : He5.DefA := { at_ := atG "is_barred", name := "is_barred", qual := "is_barred", params := defArgs s_is_barred, body := defBody s_is_barred, scope := defScope s_is_barred }
def d_batch : He5.DefA := { at_ := atG "batch", name := "batch", qual := "batch", params := defArgs s_batch, body := defBody s_batch, scope := defScope s_batch }
def d_is_integer : He5.DefA := { at_ := atG "is_integer", name := "is_integer", qual := "is_integer", params := defArgs s_is_integer, body := defBody s_is_integer, scope := defScope s_is_integer }
def d_fallen : He5.DefA := { at_ := atG "fallen", name := "fallen", qual := "fallen", params := defArgs s_fallen, body := defBody s_fallen, scope := defScope s_fallen }
def d_settled : He5.DefA := { at_ := atG "settled", name := "settled", qual := "settled", params := defArgs s_settled, body := defBody s_settled, scope := defScope s_settled }
def d_word_for : He5.DefA := { at_ := atG "word_for", name := "word_for", qual := "word_for", params := defArgs s_word_for, body := defBody s_word_for, scope := defScope s_word_for }
def d_taken_names : He5.DefA := { at_ := atG "taken_names", name := "taken_names", qual := "taken_names", params := defArgs s_taken_names, body := defBody s_taken_names, scope := defScope s_taken_names }
def d_is_remembered : He5.DefA := { at_ := atG "is_remembered", name := "is_remembered", qual := "is_remembered", params := defArgs s_is_remembered, body := defBody s_is_remembered, scope := defScope s_is_remembered }
def d_Change_init : He5.DefA := { at_ := atM "Change" "__init__", name := "__init__", qual := "Change.__init__", params := defArgs s_Change_init, body := defBody s_Change_init, scope := defScope s_Change_init }
def d_Change_until : He5.DefA := { at_ := atM "Change" "until", name := "until", qual := "Change.until", params := defArgs s_Change_until, body := defBody s_Change_until, scope := defScope s_Change_until }
def d_Change_result : He5.DefA := { at_ := atM "Change" "result", name := "result", qual := "Change.result", params := defArgs s_Change_result, body := defBody s_Change_result, scope := defScope s_Change_result }
def d_Change_put_new : He5.DefA := { at_ := atM "Change" "put_new", name := "put_new", qual := "Change.put_new", params := defArgs s_Change_put_new, body := defBody s_Change_put_new, scope := defScope s_Change_put_new }
def d_Change_moved : He5.DefA := { at_ := atM "Change" "moved", name := "moved", qual := "Change.moved", params := defArgs s_Change_moved, body := defBody s_Change_moved, scope := defScope s_Change_moved }
def d_Change_tried : He5.DefA := { at_ := atM "Change" "tried", name := "tried", qual := "Change.tried", params := defArgs s_Change_tried, body := defBody s_Change_tried, scope := defScope s_Change_tried }
def d_Change_take_many : He5.DefA := { at_ := atM "Change" "take_many", name := "take_many", qual := "Change.take_many", params := defArgs s_Change_take_many, body := defBody s_Change_take_many, scope := defScope s_Change_take_many }
def d_Change_back_now : He5.DefA := { at_ := atM "Change" "back_now", name := "back_now", qual := "Change.back_now", params := defArgs s_Change_back_now, body := defBody s_Change_back_now, scope := defScope s_Change_back_now }
def d_Change_by_token : He5.DefA := { at_ := atM "Change" "by_token", name := "by_token", qual := "Change.by_token", params := defArgs s_Change_by_token, body := defBody s_Change_by_token, scope := defScope s_Change_by_token }
def d_Change_let_go : He5.DefA := { at_ := atM "Change" "let_go", name := "let_go", qual := "Change.let_go", params := defArgs s_Change_let_go, body := defBody s_Change_let_go, scope := defScope s_Change_let_go }
def d_Change_effect_of : He5.DefA := { at_ := atM "Change" "effect_of", name := "effect_of", qual := "Change.effect_of", params := defArgs s_Change_effect_of, body := defBody s_Change_effect_of, scope := defScope s_Change_effect_of }
def d_Change_follow_up : He5.DefA := { at_ := atM "Change" "follow_up", name := "follow_up", qual := "Change.follow_up", params := defArgs s_Change_follow_up, body := defBody s_Change_follow_up, scope := defScope s_Change_follow_up }
def d_Queue_init : He5.DefA := { at_ := atM "Queue" "__init__", name := "__init__", qual := "Queue.__init__", params := defArgs s_Queue_init, body := defBody s_Queue_init, scope := defScope s_Queue_init }
def d_Queue_do : He5.DefA := { at_ := atM "Queue" "do", name := "do", qual := "Queue.do", params := defArgs s_Queue_do, body := defBody s_Queue_do, scope := defScope s_Queue_do }
def d_Queue_time : He5.DefA := { at_ := atM "Queue" "time", name := "time", qual := "Queue.time", params := defArgs s_Queue_time, body := defBody s_Queue_time, scope := defScope s_Queue_time }
def d_Queue_names : He5.DefA := { at_ := atM "Queue" "names", name := "names", qual := "Queue.names", params := defArgs s_Queue_names, body := defBody s_Queue_names, scope := defScope s_Queue_names }
def d_Queue_row : He5.DefA := { at_ := atM "Queue" "row", name := "row", qual := "Queue.row", params := defArgs s_Queue_row, body := defBody s_Queue_row, scope := defScope s_Queue_row }
def d_Queue_free : He5.DefA := { at_ := atM "Queue" "free", name := "free", qual := "Queue.free", params := defArgs s_Queue_free, body := defBody s_Queue_free, scope := defScope s_Queue_free }
def d_Queue_next_time : He5.DefA := { at_ := atM "Queue" "next_time", name := "next_time", qual := "Queue.next_time", params := defArgs s_Queue_next_time, body := defBody s_Queue_next_time, scope := defScope s_Queue_next_time }
def d_Queue_copied : He5.DefA := { at_ := atM "Queue" "copied", name := "copied", qual := "Queue.copied", params := defArgs s_Queue_copied, body := defBody s_Queue_copied, scope := defScope s_Queue_copied }
def d_is_part : He5.DefA := { at_ := atG "is_part", name := "is_part", qual := "is_part", params := defArgs s_is_part, body := defBody s_is_part, scope := defScope s_is_part }
def d_is_plan : He5.DefA := { at_ := atG "is_plan", name := "is_plan", qual := "is_plan", params := defArgs s_is_plan, body := defBody s_is_plan, scope := defScope s_is_plan }
def d_read_plan : He5.DefA := { at_ := atG "read_plan", name := "read_plan", qual := "read_plan", params := defArgs s_read_plan, body := defBody s_read_plan, scope := defScope s_read_plan }
def d_is_plan_text : He5.DefA := { at_ := atG "is_plan_text", name := "is_plan_text", qual := "is_plan_text", params := defArgs s_is_plan_text, body := defBody s_is_plan_text, scope := defScope s_is_plan_text }
def d_is_value : He5.DefA := { at_ := atG "is_value", name := "is_value", qual := "is_value", params := defArgs s_is_value, body := defBody s_is_value, scope := defScope s_is_value }
def d_is_line : He5.DefA := { at_ := atG "is_line", name := "is_line", qual := "is_line", params := defArgs s_is_line, body := defBody s_is_line, scope := defScope s_is_line }
def d_word_of : He5.DefA := { at_ := atG "word_of", name := "word_of", qual := "word_of", params := defArgs s_word_of, body := defBody s_word_of, scope := defScope s_word_of }
def d_first_bad : He5.DefA := { at_ := atG "first_bad", name := "first_bad", qual := "first_bad", params := defArgs s_first_bad, body := defBody s_first_bad, scope := defScope s_first_bad }
def d_number_or_word : He5.DefA := { at_ := atG "number_or_word", name := "number_or_word", qual := "number_or_word", params := defArgs s_number_or_word, body := defBody s_number_or_word, scope := defScope s_number_or_word }
def d_Setting_init : He5.DefA := { at_ := atM "Setting" "__init__", name := "__init__", qual := "Setting.__init__", params := defArgs s_Setting_init, body := defBody s_Setting_init, scope := defScope s_Setting_init, dfl := [.adr (He.dflAt ("Setting", some "__init__") 0)] }
def d_Setting_eq : He5.DefA := { at_ := atM "Setting" "__eq__", name := "__eq__", qual := "Setting.__eq__", params := defArgs s_Setting_eq, body := defBody s_Setting_eq, scope := defScope s_Setting_eq }
def d_Setting_order : He5.DefA := { at_ := propG "Setting" "order", name := "order", qual := "Setting.order", params := defArgs s_Setting_order, body := defBody s_Setting_order, scope := defScope s_Setting_order }
def d_Setting_skip : He5.DefA := { at_ := propG "Setting" "skip", name := "skip", qual := "Setting.skip", params := defArgs s_Setting_skip, body := defBody s_Setting_skip, scope := defScope s_Setting_skip }
def d_Setting_hold : He5.DefA := { at_ := propG "Setting" "hold", name := "hold", qual := "Setting.hold", params := defArgs s_Setting_hold, body := defBody s_Setting_hold, scope := defScope s_Setting_hold }
def d_Setting_fence : He5.DefA := { at_ := propG "Setting" "fence", name := "fence", qual := "Setting.fence", params := defArgs s_Setting_fence, body := defBody s_Setting_fence, scope := defScope s_Setting_fence }
def d_Setting_tries : He5.DefA := { at_ := propG "Setting" "tries", name := "tries", qual := "Setting.tries", params := defArgs s_Setting_tries, body := defBody s_Setting_tries, scope := defScope s_Setting_tries }
def d_Setting_counted : He5.DefA := { at_ := propG "Setting" "counted", name := "counted", qual := "Setting.counted", params := defArgs s_Setting_counted, body := defBody s_Setting_counted, scope := defScope s_Setting_counted }
def d_Setting_pause : He5.DefA := { at_ := propG "Setting" "pause", name := "pause", qual := "Setting.pause", params := defArgs s_Setting_pause, body := defBody s_Setting_pause, scope := defScope s_Setting_pause }
def d_Setting_dead : He5.DefA := { at_ := propG "Setting" "dead", name := "dead", qual := "Setting.dead", params := defArgs s_Setting_dead, body := defBody s_Setting_dead, scope := defScope s_Setting_dead }
def d_Setting_once : He5.DefA := { at_ := propG "Setting" "once", name := "once", qual := "Setting.once", params := defArgs s_Setting_once, body := defBody s_Setting_once, scope := defScope s_Setting_once }
def d_Book_init : He5.DefA := { at_ := atM "Book" "__init__", name := "__init__", qual := "Book.__init__", params := defArgs s_Book_init, body := defBody s_Book_init, scope := defScope s_Book_init }
def d_Book_eq : He5.DefA := { at_ := atM "Book" "__eq__", name := "__eq__", qual := "Book.__eq__", params := defArgs s_Book_eq, body := defBody s_Book_eq, scope := defScope s_Book_eq }
def d_Book_turn_to : He5.DefA := { at_ := atM "Book" "turn_to", name := "turn_to", qual := "Book.turn_to", params := defArgs s_Book_turn_to, body := defBody s_Book_turn_to, scope := defScope s_Book_turn_to }
def d_Book_do : He5.DefA := { at_ := atM "Book" "do", name := "do", qual := "Book.do", params := defArgs s_Book_do, body := defBody s_Book_do, scope := defScope s_Book_do }
def d_Book_late : He5.DefA := { at_ := atM "Book" "late", name := "late", qual := "Book.late", params := defArgs s_Book_late, body := defBody s_Book_late, scope := defScope s_Book_late }
def d_Book_back : He5.DefA := { at_ := atM "Book" "back", name := "back", qual := "Book.back", params := defArgs s_Book_back, body := defBody s_Book_back, scope := defScope s_Book_back }
def d_Book_log : He5.DefA := { at_ := atM "Book" "log", name := "log", qual := "Book.log", params := defArgs s_Book_log, body := defBody s_Book_log, scope := defScope s_Book_log }
def d_Book_queue : He5.DefA := { at_ := atM "Book" "queue", name := "queue", qual := "Book.queue", params := defArgs s_Book_queue, body := defBody s_Book_queue, scope := defScope s_Book_queue }
def d_Book_queue_at : He5.DefA := { at_ := atM "Book" "queue_at", name := "queue_at", qual := "Book.queue_at", params := defArgs s_Book_queue_at, body := defBody s_Book_queue_at, scope := defScope s_Book_queue_at }
def d_l_bag : He5.DefA := { at_ := atG "_law_bag", name := "_law_bag", qual := "_law_bag", params := defArgs s_l_bag, body := defBody s_l_bag, scope := defScope s_l_bag }
def d_l_take : He5.DefA := { at_ := atG "_law_take", name := "_law_take", qual := "_law_take", params := defArgs s_l_take, body := defBody s_l_take, scope := defScope s_l_take }
def d_l_lines : He5.DefA := { at_ := atG "_law_lines", name := "_law_lines", qual := "_law_lines", params := defArgs s_l_lines, body := defBody s_l_lines, scope := defScope s_l_lines }
def d_l_names : He5.DefA := { at_ := atG "_law_names", name := "_law_names", qual := "_law_names", params := defArgs s_l_names, body := defBody s_l_names, scope := defScope s_l_names }
def d_l_shown : He5.DefA := { at_ := atG "_law_shown", name := "_law_shown", qual := "_law_shown", params := defArgs s_l_shown, body := defBody s_l_shown, scope := defScope s_l_shown }
def d_l_some : He5.DefA := { at_ := atG "_law_some", name := "_law_some", qual := "_law_some", params := defArgs s_l_some, body := defBody s_l_some, scope := defScope s_l_some }
def d_law : He5.DefA := { at_ := atG "law", name := "law", qual := "law", params := defArgs s_law, body := defBody s_law, scope := defScope s_law }
def fn : List He5.DefA := [d_ordered, d_is_open, d_is_barred, d_batch, d_is_integer, d_fallen, d_settled, d_word_for, d_taken_names, d_is_remembered, d_Change_init, d_Change_until, d_Change_result, d_Change_put_new, d_Change_moved, d_Change_tried, d_Change_take_many, d_Change_back_now, d_Change_by_token, d_Change_let_go, d_Change_effect_of, d_Change_follow_up, d_Queue_init, d_Queue_do, d_Queue_time, d_Queue_names, d_Queue_row, d_Queue_free, d_Queue_next_time, d_Queue_copied, d_is_part, d_is_plan, d_read_plan, d_is_plan_text, d_is_value, d_is_line, d_word_of, d_first_bad, d_number_or_word, d_Setting_init, d_Setting_eq, d_Setting_order, d_Setting_skip, d_Setting_hold, d_Setting_fence, d_Setting_tries, d_Setting_counted, d_Setting_pause, d_Setting_dead, d_Setting_once, d_Book_init, d_Book_eq, d_Book_turn_to, d_Book_do, d_Book_late, d_Book_back, d_Book_log, d_Book_queue, d_Book_queue_at, d_l_bag, d_l_take, d_l_lines, d_l_names, d_l_shown, d_l_some, d_law]
def fa0 : List He.Fa := [.glo "ordered", .glo "is_open", .glo "is_barred", .glo "batch", .glo "is_integer", .glo "fallen", .glo "settled", .glo "word_for", .glo "taken_names", .glo "is_remembered", .glo "Change", .glo "Queue", .glo "TAKE", .glo "WORDS", .glo "is_part", .glo "is_plan", .glo "read_plan", .glo "VALUES", .glo "is_plan_text", .glo "is_value", .glo "is_line", .glo "word_of", .glo "first_bad", .glo "number_or_word", .glo "Setting", .glo "Book", .glo "_law_bag", .glo "_law_take", .glo "_law_lines", .glo "_law_names", .glo "_law_shown", .glo "_law_some", .glo "law", .free "list", .free "range", .free "len", .free "sorted", .free "enumerate", .free "any", .free "zip"]
def fa1 : List He.Fa := [.free "isinstance", .free "int", .free "bool", .free "tuple", .free "all", .free "str", .free "dict", .free "max", .free "min", .free "abs", .int "MOST_NAMES" 200, .int "MOST_PARTS" 5, .int "MOST_TRANSACTIONS" 100, .str "FREE" "free", .str "BUSY" "busy", .str "DEAD" "dead", .str "AWAY" "away", .cls "Setting", .mkr "Setting", .noat "Setting" "texts", .cls "Queue", .mkr "Queue", .noat "Queue" "by", .noat "Queue" "table", .noat "Queue" "clock", .meth "Queue" "do", .meth "Queue" "time", .meth "Queue" "names", .meth "Queue" "row", .meth "Queue" "free", .meth "Queue" "next_time", .meth "Queue" "copied", .cls "Change", .mkr "Change", .noat "Change" "by", .noat "Change" "when", .noat "Change" "table", .meth "Change" "until", .meth "Change" "result", .meth "Change" "put_new"]
def fa2 : List He.Fa := [.meth "Change" "moved", .meth "Change" "tried", .meth "Change" "take_many", .meth "Change" "back_now", .meth "Change" "by_token", .meth "Change" "let_go", .meth "Change" "effect_of", .meth "Change" "follow_up", .cls "Book", .mkr "Book", .noat "Book" "by", .noat "Book" "inner", .noat "Book" "entries", .noat "Book" "earlier", .noat "Book" "undone", .meth "Book" "turn_to", .meth "Book" "do", .meth "Book" "late", .meth "Book" "back", .meth "Book" "log", .meth "Book" "queue", .meth "Book" "queue_at"]
def fa : List He.Fa := fa0 ++ (fa1 ++ (fa2
))
/-! ### further facts -/
def propB (C f : Str) (K : PySem.W.Frag) : Bool := He.eqO (PySem.W.findIn K (.ref (He.ga K C)) f) (some (some (.ref (propP C f K)))) && (He.eqO (PySem.W.specialIn K (.ref (propP C f K)) "__get__") (some (some (.builtin "property.__get__"))) &&
  (decide (PySem.W.takesIn K (.ref (propP C f K)) = some true) && (match PySem.W.recIn K (propP C f K) "property" with
    | some (.ref _ :: _) => true
    | _ => false)))
theorem propB_ok {C f : Str} {K : PySem.W.Frag} (h : propB C f K = true) : PropOf K (He.ga K C) f (propP C f K) (propG C f K) := by
  obtain ⟨h1, h⟩ := He.ba h
  obtain ⟨h2, h⟩ := He.ba h
  obtain ⟨h3, h4⟩ := He.ba h
  refine ⟨He.eqO_ok h1, He.eqO_ok h2, of_decide_eq_true h3, ?_⟩
  unfold propG
  split at h4
  · rename_i g r e
    exact ⟨r, by rw [e]⟩
  · cases h4
/-! a method as a value, an object's class, its ==, a module's constant -/
def bmB (C m : Str) (K : PySem.W.Frag) : Bool := He.eqO (PySem.W.specialIn K (.ref (atM C m K)) "__get__") (some (some (.builtin "function.__get__"))) && (decide (PySem.W.takesIn K (.ref (atM C m K)) = some false) && PySem.W.fnIn K (atM C m K))
theorem bmB_ok {C m : Str} {K : PySem.W.Frag} (h : bmB C m K = true) (mt : Meth K (atG C K) m (atM C m K)) (cp : PySem.W.copiedNames.contains m = false := by decide +kernel) : BMeth K (atG C K) m (atM C m K) := by
  obtain ⟨h1, h⟩ := He.ba h
  obtain ⟨h2, h3⟩ := He.ba h
  exact ⟨mt, He.eqO_ok h1, of_decide_eq_true h2, cp, h3⟩
def insB (C : Str) (K : PySem.W.Frag) : Bool := He.eqO (PySem.W.findIn K (.ref (atG C K)) "__class__") (some (some (.builtin "object.__class__"))) && (He.eqO (PySem.W.specialIn K (.builtin "object.__class__") "__get__") (some (some (.builtin "getset_descriptor.__get__"))) &&
  (decide (PySem.W.takesIn K (.builtin "object.__class__") = some true) && decide (PySem.W.mroIn K (atG C K) (.type "object") = some true)))
theorem insB_ok {C : Str} {K : PySem.W.Frag} (h : insB C K = true) (cl : Cls K (atG C K)) {H : Hp} {a dx : Addr} {fs : List (Str × V)} (e : H a = some (.ins (atG C K) dx fs)) : TyOf K H (.ref a) (.ref (atG C K)) := by
  obtain ⟨h1, h⟩ := He.ba h
  obtain ⟨h2, h⟩ := He.ba h
  obtain ⟨h3, h4⟩ := He.ba h
  exact .ins e cl (He.eqO_ok h1) (He.eqO_ok h2) (of_decide_eq_true h3) (of_decide_eq_true h4)
def eqB (C : Str) (K : PySem.W.Frag) : Bool := He.eqO (PySem.W.findIn K (.ref (atG C K)) "__eq__") (some (some (.ref (atM C "__eq__" K)))) && PySem.W.isFn K (.ref (atM C "__eq__" K))
theorem eqB_ok {C : Str} {K : PySem.W.Frag} (h : eqB C K = true) : PySem.W.findIn K (.ref (atG C K)) "__eq__" = some (some (.ref (atM C "__eq__" K))) ∧ PySem.W.isFn K (.ref (atM C "__eq__" K)) = true := let ⟨h1, h2⟩ := He.ba h; ⟨He.eqO_ok h1, h2⟩
def vOf : Value → V
  | .str x _ => .str x
  | .ref a => .ref a
  | _ => .non
mutual
def konB (K : PySem.W.Frag) : Value → Dx.D → Bool
  | v, .str x => (match v with
    | .str y _ => decide (y = x)
    | _ => false)
  | v, .ktup ds => (match v with
    | .ref a => (match K.lookup a with
      | some ⟨.type "tuple", _, .seq its _, _⟩ => decide (its.size ≤ sizeLine) && konL K its.toList ds
      | _ => false)
    | _ => false)
  | _, _ => false
def konL (K : PySem.W.Frag) : List Value → List Dx.D → Bool
  | [], [] => true
  | v :: vs, d :: ds => konB K v d && konL K vs ds
  | _, _ => false
end
mutual
theorem konB_ok {K : PySem.W.Frag} : ∀ (d : Dx.D) (v : Value), konB K v d = true → RelV (vOf v) v ∧ ∀ (M : Dx.AS) (H : Hp), Dx.Rp K M H (vOf v) d
  | .str x, v, h => by
    unfold konB at h
    split at h
    · rename_i y t
      have e := of_decide_eq_true h
      subst e
      exact ⟨⟨t, rfl⟩, fun M H => .str _⟩
    · cases h
  | .ktup ds, v, h => by
    unfold konB at h
    split at h
    · rename_i a
      split at h
      · rename_i dd its n sl e
        obtain ⟨h1, h2⟩ := He.ba h
        obtain ⟨k1, k2⟩ := konL_ok ds its.toList h2
        exact ⟨rfl, fun M H => .ktup (fun H' => .inr ⟨_, its, n, e, rfl, rfl, of_decide_eq_true h1, k1⟩) (k2 M H)⟩
      · cases h
    · cases h
  | .non, v, h => by unfold konB at h; cases h
  | .bl _, v, h => by unfold konB at h; cases h
  | .int _, v, h => by unfold konB at h; cases h
  | .tup _, v, h => by unfold konB at h; cases h
  | .lst _, v, h => by unfold konB at h; cases h
  | .ref _, v, h => by unfold konB at h; cases h
theorem konL_ok {K : PySem.W.Frag} : ∀ (ds : List Dx.D) (vs : List Value), konL K vs ds = true → Vals (vs.map vOf) vs ∧ ∀ (M : Dx.AS) (H : Hp), Dx.RpL K M H (vs.map vOf) ds
  | [], [], _ => ⟨.nil, fun _ _ => .nil⟩
  | [], _ :: _, h => by unfold konL at h; cases h
  | _ :: _, [], h => by unfold konL at h; cases h
  | d :: ds, v :: vs, h => by
    unfold konL at h
    obtain ⟨h1, h2⟩ := He.ba h
    obtain ⟨a1, a2⟩ := konB_ok d v h1
    obtain ⟨b1, b2⟩ := konL_ok ds vs h2
    exact ⟨.cons a1 b1, fun M H => .cons (a2 M H) (b2 M H)⟩
end
def ks (xs : List Str) : Dx.D := .ktup (xs.map Dx.D.str)
def valuesL : List (Str × List Str) := [("order", ["oldest", "weight", "key"]), ("skip", ["yes", "no"]), ("hold", ["2", "1", "3", "4", "ever", "link"]), ("margin", ["0", "1", "2", "3"]), ("slow", ["0", "1", "2"]), ("plan", ["take effect finish"]), ("fence", ["yes", "no"]), ("tries", ["ever", "1", "2", "3", "4"]), ("count", ["take", "fail"]), ("pause", ["0", "1", "2", "3"]), ("dead", ["opens", "closes"]), ("once", ["no", "1", "2", "3", "4", "5", "6", "ever"])]
def valuesD : Dx.D := .ktup (valuesL.map fun p => .ktup [.str p.1, ks p.2])
def plnB (K : PySem.W.Frag) (a : Addr) : Bool := match K.lookup a with
  | some ⟨.type "tuple", none, .seq _ _, _⟩ => true
  | _ => false
theorem plnB_ok {K : PySem.W.Frag} {a : Addr} (h : plnB K a = true) : ∃ (o : Obj) (its : Array Value) (n : Nat), K.lookup a = some o ∧ o.cls = .type "tuple" ∧ o.dict = none ∧ o.data = .seq its n := by
  unfold plnB at h
  split at h
  · rename_i its n sl e
    exact ⟨_, its, n, e, rfl, rfl, rfl⟩
  · cases h
def ex : List (PySem.W.Frag → Bool) := [propB "Setting" "order", propB "Setting" "skip", propB "Setting" "hold", propB "Setting" "fence", propB "Setting" "tries", propB "Setting" "counted", propB "Setting" "pause", propB "Setting" "dead", propB "Setting" "once", bmB "Change" "put_new", bmB "Change" "by_token", insB "Setting", insB "Book", eqB "Setting", eqB "Book", fun K => konB K (.ref (atG "VALUES" K)) valuesD, fun K => konB K (.ref (atG "WORDS" K)) (ks ["check", "effect", "finish", "follow"]), fun K => konB K (.ref (atG "TAKE" K)) (ks ["take"]), fun K => plnB K (atG "VALUES" K)]
/-- what the top has written -/
structure Txt (K : PySem.W.Frag) (mg : Str → Option Value) : Prop where
  h : ∃ h : Heap, K.In h ∧ h.Ns mainGlobals mg
  c : He5.SaysA fa fn K
  m : (ex.all fun b => b K) = true
theorem Txt.ex {K : PySem.W.Frag} {mg : Str → Option Value} (T : Txt K mg) (i : Nat) {b : PySem.W.Frag → Bool} (h : RQ.ex[i]? = some b) : b K = true := List.all_eq_true.mp T.m b (List.mem_of_getElem? h)
theorem g_ordered {K : PySem.W.Frag} {mg : Str → Option Value} (T : Txt K mg) : mg "ordered" = some (.ref (atG "ordered" K)) := let ⟨_, X, G⟩ := T.h; He.glo_ok X G (T.c.fact 0 rfl)
theorem g_is_open {K : PySem.W.Frag} {mg : Str → Option Value} (T : Txt K mg) : mg "is_open" = some (.ref (atG "is_open" K)) := let ⟨_, X, G⟩ := T.h; He.glo_ok X G (T.c.fact 1 rfl)
theorem g_is_barred {K : PySem.W.Frag} {mg : Str → Option Value} (T : Txt K mg) : mg "is_barred" = some (.ref (atG "is_barred" K)) := let ⟨_, X, G⟩ := T.h; He.glo_ok X G (T.c.fact 2 rfl)
theorem g_batch {K : PySem.W.Frag} {mg : Str → Option Value} (T : Txt K mg) : mg "batch" = some (.ref (atG "batch" K)) := let ⟨_, X, G⟩ := T.h; He.glo_ok X G (T.c.fact 3 rfl)
theorem g_is_integer {K : PySem.W.Frag} {mg : Str → Option Value} (T : Txt K mg) : mg "is_integer" = some (.ref (atG "is_integer" K)) := let ⟨_, X, G⟩ := T.h; He.glo_ok X G (T.c.fact 4 rfl)
theorem g_fallen {K : PySem.W.Frag} {mg : Str → Option Value} (T : Txt K mg) : mg "fallen" = some (.ref (atG "fallen" K)) := let ⟨_, X, G⟩ := T.h; He.glo_ok X G (T.c.fact 5 rfl)
theorem g_settled {K : PySem.W.Frag} {mg : Str → Option Value} (T : Txt K mg) : mg "settled" = some (.ref (atG "settled" K)) := let ⟨_, X, G⟩ := T.h; He.glo_ok X G (T.c.fact 6 rfl)
theorem g_word_for {K : PySem.W.Frag} {mg : Str → Option Value} (T : Txt K mg) : mg "word_for" = some (.ref (atG "word_for" K)) := let ⟨_, X, G⟩ := T.h; He.glo_ok X G (T.c.fact 7 rfl)
theorem g_taken_names {K : PySem.W.Frag} {mg : Str → Option Value} (T : Txt K mg) : mg "taken_names" = some (.ref (atG "taken_names" K)) := let ⟨_, X, G⟩ := T.h; He.glo_ok X G (T.c.fact 8 rfl)
theorem g_is_remembered {K : PySem.W.Frag} {mg : Str → Option Value} (T : Txt K mg) : mg "is_remembered" = some (.ref (atG "is_remembered" K)) := let ⟨_, X, G⟩ := T.h; He.glo_ok X G (T.c.fact 9 rfl)
theorem g_Change {K : PySem.W.Frag} {mg : Str → Option Value} (T : Txt K mg) : mg "Change" = some (.ref (atG "Change" K)) := let ⟨_, X, G⟩ := T.h; He.glo_ok X G (T.c.fact 10 rfl)
theorem g_Queue {K : PySem.W.Frag} {mg : Str → Option Value} (T : Txt K mg) : mg "Queue" = some (.ref (atG "Queue" K)) := let ⟨_, X, G⟩ := T.h; He.glo_ok X G (T.c.fact 11 rfl)
theorem g_TAKE {K : PySem.W.Frag} {mg : Str → Option Value} (T : Txt K mg) : mg "TAKE" = some (.ref (atG "TAKE" K)) := let ⟨_, X, G⟩ := T.h; He.glo_ok X G (T.c.fact 12 rfl)
theorem g_WORDS {K : PySem.W.Frag} {mg : Str → Option Value} (T : Txt K mg) : mg "WORDS" = some (.ref (atG "WORDS" K)) := let ⟨_, X, G⟩ := T.h; He.glo_ok X G (T.c.fact 13 rfl)
theorem g_is_part {K : PySem.W.Frag} {mg : Str → Option Value} (T : Txt K mg) : mg "is_part" = some (.ref (atG "is_part" K)) := let ⟨_, X, G⟩ := T.h; He.glo_ok X G (T.c.fact 14 rfl)
theorem g_is_plan {K : PySem.W.Frag} {mg : Str → Option Value} (T : Txt K mg) : mg "is_plan" = some (.ref (atG "is_plan" K)) := let ⟨_, X, G⟩ := T.h; He.glo_ok X G (T.c.fact 15 rfl)
theorem g_read_plan {K : PySem.W.Frag} {mg : Str → Option Value} (T : Txt K mg) : mg "read_plan" = some (.ref (atG "read_plan" K)) := let ⟨_, X, G⟩ := T.h; He.glo_ok X G (T.c.fact 16 rfl)
theorem g_VALUES {K : PySem.W.Frag} {mg : Str → Option Value} (T : Txt K mg) : mg "VALUES" = some (.ref (atG "VALUES" K)) := let ⟨_, X, G⟩ := T.h; He.glo_ok X G (T.c.fact 17 rfl)
theorem g_is_plan_text {K : PySem.W.Frag} {mg : Str → Option Value} (T : Txt K mg) : mg "is_plan_text" = some (.ref (atG "is_plan_text" K)) := let ⟨_, X, G⟩ := T.h; He.glo_ok X G (T.c.fact 18 rfl)
theorem g_is_value {K : PySem.W.Frag} {mg : Str → Option Value} (T : Txt K mg) : mg "is_value" = some (.ref (atG "is_value" K)) := let ⟨_, X, G⟩ := T.h; He.glo_ok X G (T.c.fact 19 rfl)
theorem g_is_line {K : PySem.W.Frag} {mg : Str → Option Value} (T : Txt K mg) : mg "is_line" = some (.ref (atG "is_line" K)) := let ⟨_, X, G⟩ := T.h; He.glo_ok X G (T.c.fact 20 rfl)
theorem g_word_of {K : PySem.W.Frag} {mg : Str → Option Value} (T : Txt K mg) : mg "word_of" = some (.ref (atG "word_of" K)) := let ⟨_, X, G⟩ := T.h; He.glo_ok X G (T.c.fact 21 rfl)
theorem g_first_bad {K : PySem.W.Frag} {mg : Str → Option Value} (T : Txt K mg) : mg "first_bad" = some (.ref (atG "first_bad" K)) := let ⟨_, X, G⟩ := T.h; He.glo_ok X G (T.c.fact 22 rfl)
theorem g_number_or_word {K : PySem.W.Frag} {mg : Str → Option Value} (T : Txt K mg) : mg "number_or_word" = some (.ref (atG "number_or_word" K)) := let ⟨_, X, G⟩ := T.h; He.glo_ok X G (T.c.fact 23 rfl)
theorem g_Setting {K : PySem.W.Frag} {mg : Str → Option Value} (T : Txt K mg) : mg "Setting" = some (.ref (atG "Setting" K)) := let ⟨_, X, G⟩ := T.h; He.glo_ok X G (T.c.fact 24 rfl)
theorem g_Book {K : PySem.W.Frag} {mg : Str → Option Value} (T : Txt K mg) : mg "Book" = some (.ref (atG "Book" K)) := let ⟨_, X, G⟩ := T.h; He.glo_ok X G (T.c.fact 25 rfl)
theorem g_law_bag {K : PySem.W.Frag} {mg : Str → Option Value} (T : Txt K mg) : mg "_law_bag" = some (.ref (atG "_law_bag" K)) := let ⟨_, X, G⟩ := T.h; He.glo_ok X G (T.c.fact 26 rfl)
theorem g_law_take {K : PySem.W.Frag} {mg : Str → Option Value} (T : Txt K mg) : mg "_law_take" = some (.ref (atG "_law_take" K)) := let ⟨_, X, G⟩ := T.h; He.glo_ok X G (T.c.fact 27 rfl)
theorem g_law_lines {K : PySem.W.Frag} {mg : Str → Option Value} (T : Txt K mg) : mg "_law_lines" = some (.ref (atG "_law_lines" K)) := let ⟨_, X, G⟩ := T.h; He.glo_ok X G (T.c.fact 28 rfl)
theorem g_law_names {K : PySem.W.Frag} {mg : Str → Option Value} (T : Txt K mg) : mg "_law_names" = some (.ref (atG "_law_names" K)) := let ⟨_, X, G⟩ := T.h; He.glo_ok X G (T.c.fact 29 rfl)
theorem g_law_shown {K : PySem.W.Frag} {mg : Str → Option Value} (T : Txt K mg) : mg "_law_shown" = some (.ref (atG "_law_shown" K)) := let ⟨_, X, G⟩ := T.h; He.glo_ok X G (T.c.fact 30 rfl)
theorem g_law_some {K : PySem.W.Frag} {mg : Str → Option Value} (T : Txt K mg) : mg "_law_some" = some (.ref (atG "_law_some" K)) := let ⟨_, X, G⟩ := T.h; He.glo_ok X G (T.c.fact 31 rfl)
theorem g_law {K : PySem.W.Frag} {mg : Str → Option Value} (T : Txt K mg) : mg "law" = some (.ref (atG "law" K)) := let ⟨_, X, G⟩ := T.h; He.glo_ok X G (T.c.fact 32 rfl)
theorem n_list {K : PySem.W.Frag} {mg : Str → Option Value} (T : Txt K mg) : mg "list" = none := let ⟨_, X, G⟩ := T.h; He.free_ok X G (T.c.fact 33 rfl)
theorem n_range {K : PySem.W.Frag} {mg : Str → Option Value} (T : Txt K mg) : mg "range" = none := let ⟨_, X, G⟩ := T.h; He.free_ok X G (T.c.fact 34 rfl)
theorem n_len {K : PySem.W.Frag} {mg : Str → Option Value} (T : Txt K mg) : mg "len" = none := let ⟨_, X, G⟩ := T.h; He.free_ok X G (T.c.fact 35 rfl)
theorem n_sorted {K : PySem.W.Frag} {mg : Str → Option Value} (T : Txt K mg) : mg "sorted" = none := let ⟨_, X, G⟩ := T.h; He.free_ok X G (T.c.fact 36 rfl)
theorem n_enumerate {K : PySem.W.Frag} {mg : Str → Option Value} (T : Txt K mg) : mg "enumerate" = none := let ⟨_, X, G⟩ := T.h; He.free_ok X G (T.c.fact 37 rfl)
theorem n_any {K : PySem.W.Frag} {mg : Str → Option Value} (T : Txt K mg) : mg "any" = none := let ⟨_, X, G⟩ := T.h; He.free_ok X G (T.c.fact 38 rfl)
theorem n_zip {K : PySem.W.Frag} {mg : Str → Option Value} (T : Txt K mg) : mg "zip" = none := let ⟨_, X, G⟩ := T.h; He.free_ok X G (T.c.fact 39 rfl)
theorem n_isinstance {K : PySem.W.Frag} {mg : Str → Option Value} (T : Txt K mg) : mg "isinstance" = none := let ⟨_, X, G⟩ := T.h; He.free_ok X G (T.c.fact 40 rfl)
theorem n_int {K : PySem.W.Frag} {mg : Str → Option Value} (T : Txt K mg) : mg "int" = none := let ⟨_, X, G⟩ := T.h; He.free_ok X G (T.c.fact 41 rfl)
theorem n_bool {K : PySem.W.Frag} {mg : Str → Option Value} (T : Txt K mg) : mg "bool" = none := let ⟨_, X, G⟩ := T.h; He.free_ok X G (T.c.fact 42 rfl)
theorem n_tuple {K : PySem.W.Frag} {mg : Str → Option Value} (T : Txt K mg) : mg "tuple" = none := let ⟨_, X, G⟩ := T.h; He.free_ok X G (T.c.fact 43 rfl)
theorem n_all {K : PySem.W.Frag} {mg : Str → Option Value} (T : Txt K mg) : mg "all" = none := let ⟨_, X, G⟩ := T.h; He.free_ok X G (T.c.fact 44 rfl)
theorem n_str {K : PySem.W.Frag} {mg : Str → Option Value} (T : Txt K mg) : mg "str" = none := let ⟨_, X, G⟩ := T.h; He.free_ok X G (T.c.fact 45 rfl)
theorem n_dict {K : PySem.W.Frag} {mg : Str → Option Value} (T : Txt K mg) : mg "dict" = none := let ⟨_, X, G⟩ := T.h; He.free_ok X G (T.c.fact 46 rfl)
theorem n_max {K : PySem.W.Frag} {mg : Str → Option Value} (T : Txt K mg) : mg "max" = none := let ⟨_, X, G⟩ := T.h; He.free_ok X G (T.c.fact 47 rfl)
theorem n_min {K : PySem.W.Frag} {mg : Str → Option Value} (T : Txt K mg) : mg "min" = none := let ⟨_, X, G⟩ := T.h; He.free_ok X G (T.c.fact 48 rfl)
theorem n_abs {K : PySem.W.Frag} {mg : Str → Option Value} (T : Txt K mg) : mg "abs" = none := let ⟨_, X, G⟩ := T.h; He.free_ok X G (T.c.fact 49 rfl)
theorem i_MOST_NAMES {K : PySem.W.Frag} {mg : Str → Option Value} (T : Txt K mg) : ∃ t, mg "MOST_NAMES" = some (.int 200 t) := let ⟨_, X, G⟩ := T.h; He.int_ok X G (T.c.fact 50 rfl)
theorem i_MOST_PARTS {K : PySem.W.Frag} {mg : Str → Option Value} (T : Txt K mg) : ∃ t, mg "MOST_PARTS" = some (.int 5 t) := let ⟨_, X, G⟩ := T.h; He.int_ok X G (T.c.fact 51 rfl)
theorem i_MOST_TRANSACTIONS {K : PySem.W.Frag} {mg : Str → Option Value} (T : Txt K mg) : ∃ t, mg "MOST_TRANSACTIONS" = some (.int 100 t) := let ⟨_, X, G⟩ := T.h; He.int_ok X G (T.c.fact 52 rfl)
theorem s_FREE {K : PySem.W.Frag} {mg : Str → Option Value} (T : Txt K mg) : ∃ t, mg "FREE" = some (.str "free" t) := let ⟨_, X, G⟩ := T.h; He.str_ok X G (T.c.fact 53 rfl)
theorem s_BUSY {K : PySem.W.Frag} {mg : Str → Option Value} (T : Txt K mg) : ∃ t, mg "BUSY" = some (.str "busy" t) := let ⟨_, X, G⟩ := T.h; He.str_ok X G (T.c.fact 54 rfl)
theorem s_DEAD {K : PySem.W.Frag} {mg : Str → Option Value} (T : Txt K mg) : ∃ t, mg "DEAD" = some (.str "dead" t) := let ⟨_, X, G⟩ := T.h; He.str_ok X G (T.c.fact 55 rfl)
theorem s_AWAY {K : PySem.W.Frag} {mg : Str → Option Value} (T : Txt K mg) : ∃ t, mg "AWAY" = some (.str "away" t) := let ⟨_, X, G⟩ := T.h; He.str_ok X G (T.c.fact 56 rfl)
theorem cl_Setting {K : PySem.W.Frag} {mg : Str → Option Value} (T : Txt K mg) : Cls K (atG "Setting" K) := He.cls_ok (T.c.fact 57 rfl)
theorem mk_Setting {K : PySem.W.Frag} {mg : Str → Option Value} (T : Txt K mg) : Mk K (atG "Setting" K) (atM "Setting" "__init__" K) := He.mkr_ok (T.c.fact 58 rfl)
theorem na_Setting_texts {K : PySem.W.Frag} {mg : Str → Option Value} (T : Txt K mg) : NoAttr K (atG "Setting" K) "texts" := He.noat_ok (T.c.fact 59 rfl)
theorem cl_Queue {K : PySem.W.Frag} {mg : Str → Option Value} (T : Txt K mg) : Cls K (atG "Queue" K) := He.cls_ok (T.c.fact 60 rfl)
theorem mk_Queue {K : PySem.W.Frag} {mg : Str → Option Value} (T : Txt K mg) : Mk K (atG "Queue" K) (atM "Queue" "__init__" K) := He.mkr_ok (T.c.fact 61 rfl)
theorem na_Queue_by {K : PySem.W.Frag} {mg : Str → Option Value} (T : Txt K mg) : NoAttr K (atG "Queue" K) "by" := He.noat_ok (T.c.fact 62 rfl)
theorem na_Queue_table {K : PySem.W.Frag} {mg : Str → Option Value} (T : Txt K mg) : NoAttr K (atG "Queue" K) "table" := He.noat_ok (T.c.fact 63 rfl)
theorem na_Queue_clock {K : PySem.W.Frag} {mg : Str → Option Value} (T : Txt K mg) : NoAttr K (atG "Queue" K) "clock" := He.noat_ok (T.c.fact 64 rfl)
theorem me_Queue_do {K : PySem.W.Frag} {mg : Str → Option Value} (T : Txt K mg) : Meth K (atG "Queue" K) "do" (atM "Queue" "do" K) := He.meth_ok (T.c.fact 65 rfl)
theorem me_Queue_time {K : PySem.W.Frag} {mg : Str → Option Value} (T : Txt K mg) : Meth K (atG "Queue" K) "time" (atM "Queue" "time" K) := He.meth_ok (T.c.fact 66 rfl)
theorem me_Queue_names {K : PySem.W.Frag} {mg : Str → Option Value} (T : Txt K mg) : Meth K (atG "Queue" K) "names" (atM "Queue" "names" K) := He.meth_ok (T.c.fact 67 rfl)
theorem me_Queue_row {K : PySem.W.Frag} {mg : Str → Option Value} (T : Txt K mg) : Meth K (atG "Queue" K) "row" (atM "Queue" "row" K) := He.meth_ok (T.c.fact 68 rfl)
theorem me_Queue_free {K : PySem.W.Frag} {mg : Str → Option Value} (T : Txt K mg) : Meth K (atG "Queue" K) "free" (atM "Queue" "free" K) := He.meth_ok (T.c.fact 69 rfl)
theorem me_Queue_next_time {K : PySem.W.Frag} {mg : Str → Option Value} (T : Txt K mg) : Meth K (atG "Queue" K) "next_time" (atM "Queue" "next_time" K) := He.meth_ok (T.c.fact 70 rfl)
theorem me_Queue_copied {K : PySem.W.Frag} {mg : Str → Option Value} (T : Txt K mg) : Meth K (atG "Queue" K) "copied" (atM "Queue" "copied" K) := He.meth_ok (T.c.fact 71 rfl)
theorem cl_Change {K : PySem.W.Frag} {mg : Str → Option Value} (T : Txt K mg) : Cls K (atG "Change" K) := He.cls_ok (T.c.fact 72 rfl)
theorem mk_Change {K : PySem.W.Frag} {mg : Str → Option Value} (T : Txt K mg) : Mk K (atG "Change" K) (atM "Change" "__init__" K) := He.mkr_ok (T.c.fact 73 rfl)
theorem na_Change_by {K : PySem.W.Frag} {mg : Str → Option Value} (T : Txt K mg) : NoAttr K (atG "Change" K) "by" := He.noat_ok (T.c.fact 74 rfl)
theorem na_Change_when {K : PySem.W.Frag} {mg : Str → Option Value} (T : Txt K mg) : NoAttr K (atG "Change" K) "when" := He.noat_ok (T.c.fact 75 rfl)
theorem na_Change_table {K : PySem.W.Frag} {mg : Str → Option Value} (T : Txt K mg) : NoAttr K (atG "Change" K) "table" := He.noat_ok (T.c.fact 76 rfl)
theorem me_Change_until {K : PySem.W.Frag} {mg : Str → Option Value} (T : Txt K mg) : Meth K (atG "Change" K) "until" (atM "Change" "until" K) := He.meth_ok (T.c.fact 77 rfl)
theorem me_Change_result {K : PySem.W.Frag} {mg : Str → Option Value} (T : Txt K mg) : Meth K (atG "Change" K) "result" (atM "Change" "result" K) := He.meth_ok (T.c.fact 78 rfl)
theorem me_Change_put_new {K : PySem.W.Frag} {mg : Str → Option Value} (T : Txt K mg) : Meth K (atG "Change" K) "put_new" (atM "Change" "put_new" K) := He.meth_ok (T.c.fact 79 rfl)
theorem me_Change_moved {K : PySem.W.Frag} {mg : Str → Option Value} (T : Txt K mg) : Meth K (atG "Change" K) "moved" (atM "Change" "moved" K) := He.meth_ok (T.c.fact 80 rfl)
theorem me_Change_tried {K : PySem.W.Frag} {mg : Str → Option Value} (T : Txt K mg) : Meth K (atG "Change" K) "tried" (atM "Change" "tried" K) := He.meth_ok (T.c.fact 81 rfl)
theorem me_Change_take_many {K : PySem.W.Frag} {mg : Str → Option Value} (T : Txt K mg) : Meth K (atG "Change" K) "take_many" (atM "Change" "take_many" K) := He.meth_ok (T.c.fact 82 rfl)
theorem me_Change_back_now {K : PySem.W.Frag} {mg : Str → Option Value} (T : Txt K mg) : Meth K (atG "Change" K) "back_now" (atM "Change" "back_now" K) := He.meth_ok (T.c.fact 83 rfl)
theorem me_Change_by_token {K : PySem.W.Frag} {mg : Str → Option Value} (T : Txt K mg) : Meth K (atG "Change" K) "by_token" (atM "Change" "by_token" K) := He.meth_ok (T.c.fact 84 rfl)
theorem me_Change_let_go {K : PySem.W.Frag} {mg : Str → Option Value} (T : Txt K mg) : Meth K (atG "Change" K) "let_go" (atM "Change" "let_go" K) := He.meth_ok (T.c.fact 85 rfl)
theorem me_Change_effect_of {K : PySem.W.Frag} {mg : Str → Option Value} (T : Txt K mg) : Meth K (atG "Change" K) "effect_of" (atM "Change" "effect_of" K) := He.meth_ok (T.c.fact 86 rfl)
theorem me_Change_follow_up {K : PySem.W.Frag} {mg : Str → Option Value} (T : Txt K mg) : Meth K (atG "Change" K) "follow_up" (atM "Change" "follow_up" K) := He.meth_ok (T.c.fact 87 rfl)
theorem cl_Book {K : PySem.W.Frag} {mg : Str → Option Value} (T : Txt K mg) : Cls K (atG "Book" K) := He.cls_ok (T.c.fact 88 rfl)
theorem mk_Book {K : PySem.W.Frag} {mg : Str → Option Value} (T : Txt K mg) : Mk K (atG "Book" K) (atM "Book" "__init__" K) := He.mkr_ok (T.c.fact 89 rfl)
theorem na_Book_by {K : PySem.W.Frag} {mg : Str → Option Value} (T : Txt K mg) : NoAttr K (atG "Book" K) "by" := He.noat_ok (T.c.fact 90 rfl)
theorem na_Book_inner {K : PySem.W.Frag} {mg : Str → Option Value} (T : Txt K mg) : NoAttr K (atG "Book" K) "inner" := He.noat_ok (T.c.fact 91 rfl)
theorem na_Book_entries {K : PySem.W.Frag} {mg : Str → Option Value} (T : Txt K mg) : NoAttr K (atG "Book" K) "entries" := He.noat_ok (T.c.fact 92 rfl)
theorem na_Book_earlier {K : PySem.W.Frag} {mg : Str → Option Value} (T : Txt K mg) : NoAttr K (atG "Book" K) "earlier" := He.noat_ok (T.c.fact 93 rfl)
theorem na_Book_undone {K : PySem.W.Frag} {mg : Str → Option Value} (T : Txt K mg) : NoAttr K (atG "Book" K) "undone" := He.noat_ok (T.c.fact 94 rfl)
theorem me_Book_turn_to {K : PySem.W.Frag} {mg : Str → Option Value} (T : Txt K mg) : Meth K (atG "Book" K) "turn_to" (atM "Book" "turn_to" K) := He.meth_ok (T.c.fact 95 rfl)
theorem me_Book_do {K : PySem.W.Frag} {mg : Str → Option Value} (T : Txt K mg) : Meth K (atG "Book" K) "do" (atM "Book" "do" K) := He.meth_ok (T.c.fact 96 rfl)
theorem me_Book_late {K : PySem.W.Frag} {mg : Str → Option Value} (T : Txt K mg) : Meth K (atG "Book" K) "late" (atM "Book" "late" K) := He.meth_ok (T.c.fact 97 rfl)
theorem me_Book_back {K : PySem.W.Frag} {mg : Str → Option Value} (T : Txt K mg) : Meth K (atG "Book" K) "back" (atM "Book" "back" K) := He.meth_ok (T.c.fact 98 rfl)
theorem me_Book_log {K : PySem.W.Frag} {mg : Str → Option Value} (T : Txt K mg) : Meth K (atG "Book" K) "log" (atM "Book" "log" K) := He.meth_ok (T.c.fact 99 rfl)
theorem me_Book_queue {K : PySem.W.Frag} {mg : Str → Option Value} (T : Txt K mg) : Meth K (atG "Book" K) "queue" (atM "Book" "queue" K) := He.meth_ok (T.c.fact 100 rfl)
theorem me_Book_queue_at {K : PySem.W.Frag} {mg : Str → Option Value} (T : Txt K mg) : Meth K (atG "Book" K) "queue_at" (atM "Book" "queue_at" K) := He.meth_ok (T.c.fact 101 rfl)
theorem pr_order {K : PySem.W.Frag} {mg : Str → Option Value} (T : Txt K mg) : PropOf K (atG "Setting" K) "order" (propP "Setting" "order" K) (propG "Setting" "order" K) := propB_ok (T.ex 0 rfl)
theorem pr_skip {K : PySem.W.Frag} {mg : Str → Option Value} (T : Txt K mg) : PropOf K (atG "Setting" K) "skip" (propP "Setting" "skip" K) (propG "Setting" "skip" K) := propB_ok (T.ex 1 rfl)
theorem pr_hold {K : PySem.W.Frag} {mg : Str → Option Value} (T : Txt K mg) : PropOf K (atG "Setting" K) "hold" (propP "Setting" "hold" K) (propG "Setting" "hold" K) := propB_ok (T.ex 2 rfl)
theorem pr_fence {K : PySem.W.Frag} {mg : Str → Option Value} (T : Txt K mg) : PropOf K (atG "Setting" K) "fence" (propP "Setting" "fence" K) (propG "Setting" "fence" K) := propB_ok (T.ex 3 rfl)
theorem pr_tries {K : PySem.W.Frag} {mg : Str → Option Value} (T : Txt K mg) : PropOf K (atG "Setting" K) "tries" (propP "Setting" "tries" K) (propG "Setting" "tries" K) := propB_ok (T.ex 4 rfl)
theorem pr_counted {K : PySem.W.Frag} {mg : Str → Option Value} (T : Txt K mg) : PropOf K (atG "Setting" K) "counted" (propP "Setting" "counted" K) (propG "Setting" "counted" K) := propB_ok (T.ex 5 rfl)
theorem pr_pause {K : PySem.W.Frag} {mg : Str → Option Value} (T : Txt K mg) : PropOf K (atG "Setting" K) "pause" (propP "Setting" "pause" K) (propG "Setting" "pause" K) := propB_ok (T.ex 6 rfl)
theorem pr_dead {K : PySem.W.Frag} {mg : Str → Option Value} (T : Txt K mg) : PropOf K (atG "Setting" K) "dead" (propP "Setting" "dead" K) (propG "Setting" "dead" K) := propB_ok (T.ex 7 rfl)
theorem pr_once {K : PySem.W.Frag} {mg : Str → Option Value} (T : Txt K mg) : PropOf K (atG "Setting" K) "once" (propP "Setting" "once" K) (propG "Setting" "once" K) := propB_ok (T.ex 8 rfl)
theorem bm_put_new {K : PySem.W.Frag} {mg : Str → Option Value} (T : Txt K mg) : BMeth K (atG "Change" K) "put_new" (atM "Change" "put_new" K) := bmB_ok (T.ex 9 rfl) (me_Change_put_new T)
theorem bm_by_token {K : PySem.W.Frag} {mg : Str → Option Value} (T : Txt K mg) : BMeth K (atG "Change" K) "by_token" (atM "Change" "by_token" K) := bmB_ok (T.ex 10 rfl) (me_Change_by_token T)
theorem ty_Setting {K : PySem.W.Frag} {mg : Str → Option Value} (T : Txt K mg) {H : Hp} {a dx : Addr} {fs : List (Str × V)} (e : H a = some (.ins (atG "Setting" K) dx fs)) : TyOf K H (.ref a) (.ref (atG "Setting" K)) := insB_ok (T.ex 11 rfl) (cl_Setting T) e
theorem ty_Book {K : PySem.W.Frag} {mg : Str → Option Value} (T : Txt K mg) {H : Hp} {a dx : Addr} {fs : List (Str × V)} (e : H a = some (.ins (atG "Book" K) dx fs)) : TyOf K H (.ref a) (.ref (atG "Book" K)) := insB_ok (T.ex 12 rfl) (cl_Book T) e
theorem eq_Setting {K : PySem.W.Frag} {mg : Str → Option Value} (T : Txt K mg) : PySem.W.findIn K (.ref (atG "Setting" K)) "__eq__" = some (some (.ref (atM "Setting" "__eq__" K))) ∧ PySem.W.isFn K (.ref (atM "Setting" "__eq__" K)) = true := eqB_ok (T.ex 13 rfl)
theorem eq_Book {K : PySem.W.Frag} {mg : Str → Option Value} (T : Txt K mg) : PySem.W.findIn K (.ref (atG "Book" K)) "__eq__" = some (some (.ref (atM "Book" "__eq__" K))) ∧ PySem.W.isFn K (.ref (atM "Book" "__eq__" K)) = true := eqB_ok (T.ex 14 rfl)
theorem k_VALUES {K : PySem.W.Frag} {mg : Str → Option Value} (T : Txt K mg) (M : Dx.AS) (H : Hp) : Dx.Rp K M H (.ref (atG "VALUES" K)) valuesD := (konB_ok _ _ (T.ex 15 rfl)).2 M H
theorem k_WORDS {K : PySem.W.Frag} {mg : Str → Option Value} (T : Txt K mg) (M : Dx.AS) (H : Hp) : Dx.Rp K M H (.ref (atG "WORDS" K)) (ks ["check", "effect", "finish", "follow"]) := (konB_ok _ _ (T.ex 16 rfl)).2 M H
theorem k_TAKE {K : PySem.W.Frag} {mg : Str → Option Value} (T : Txt K mg) (M : Dx.AS) (H : Hp) : Dx.Rp K M H (.ref (atG "TAKE" K)) (ks ["take"]) := (konB_ok _ _ (T.ex 17 rfl)).2 M H
theorem p_VALUES {K : PySem.W.Frag} {mg : Str → Option Value} (T : Txt K mg) : ∃ (o : Obj) (its : Array Value) (n : Nat), K.lookup (atG "VALUES" K) = some o ∧ o.cls = .type "tuple" ∧ o.dict = none ∧ o.data = .seq its n := plnB_ok (T.ex 18 rfl)
theorem f_ordered {K : PySem.W.Frag} {mg : Str → Option Value} (T : Txt K mg) : ∃ fd, FunD K "ordered" "ordered" (defArgs s_ordered) (defBody s_ordered) (defScope s_ordered) [] [] (atG "ordered" K) fd := T.c.def_ 0 (d := d_ordered) rfl
theorem f_is_open {K : PySem.W.Frag} {mg : Str → Option Value} (T : Txt K mg) : ∃ fd, FunD K "is_open" "is_open" (defArgs s_is_open) (defBody s_is_open) (defScope s_is_open) [] [] (atG "is_open" K) fd := T.c.def_ 1 (d := d_is_open) rfl
theorem f_is_barred {K : PySem.W.Frag} {mg : Str → Option Value} (T : Txt K mg) : ∃ fd, FunD K "is_barred" "is_barred" (defArgs s_is_barred) (defBody s_is_barred) (defScope s_is_barred) [] [] (atG "is_barred" K) fd := T.c.def_ 2 (d := d_is_barred) rfl
theorem f_batch {K : PySem.W.Frag} {mg : Str → Option Value} (T : Txt K mg) : ∃ fd, FunD K "batch" "batch" (defArgs s_batch) (defBody s_batch) (defScope s_batch) [] [] (atG "batch" K) fd := T.c.def_ 3 (d := d_batch) rfl
theorem f_is_integer {K : PySem.W.Frag} {mg : Str → Option Value} (T : Txt K mg) : ∃ fd, FunD K "is_integer" "is_integer" (defArgs s_is_integer) (defBody s_is_integer) (defScope s_is_integer) [] [] (atG "is_integer" K) fd := T.c.def_ 4 (d := d_is_integer) rfl
theorem f_fallen {K : PySem.W.Frag} {mg : Str → Option Value} (T : Txt K mg) : ∃ fd, FunD K "fallen" "fallen" (defArgs s_fallen) (defBody s_fallen) (defScope s_fallen) [] [] (atG "fallen" K) fd := T.c.def_ 5 (d := d_fallen) rfl
theorem f_settled {K : PySem.W.Frag} {mg : Str → Option Value} (T : Txt K mg) : ∃ fd, FunD K "settled" "settled" (defArgs s_settled) (defBody s_settled) (defScope s_settled) [] [] (atG "settled" K) fd := T.c.def_ 6 (d := d_settled) rfl
theorem f_word_for {K : PySem.W.Frag} {mg : Str → Option Value} (T : Txt K mg) : ∃ fd, FunD K "word_for" "word_for" (defArgs s_word_for) (defBody s_word_for) (defScope s_word_for) [] [] (atG "word_for" K) fd := T.c.def_ 7 (d := d_word_for) rfl
theorem f_taken_names {K : PySem.W.Frag} {mg : Str → Option Value} (T : Txt K mg) : ∃ fd, FunD K "taken_names" "taken_names" (defArgs s_taken_names) (defBody s_taken_names) (defScope s_taken_names) [] [] (atG "taken_names" K) fd := T.c.def_ 8 (d := d_taken_names) rfl
theorem f_is_remembered {K : PySem.W.Frag} {mg : Str → Option Value} (T : Txt K mg) : ∃ fd, FunD K "is_remembered" "is_remembered" (defArgs s_is_remembered) (defBody s_is_remembered) (defScope s_is_remembered) [] [] (atG "is_remembered" K) fd := T.c.def_ 9 (d := d_is_remembered) rfl
theorem f_Change_init {K : PySem.W.Frag} {mg : Str → Option Value} (T : Txt K mg) : ∃ fd, FunD K "__init__" "Change.__init__" (defArgs s_Change_init) (defBody s_Change_init) (defScope s_Change_init) [] [] (atM "Change" "__init__" K) fd := T.c.def_ 10 (d := d_Change_init) rfl
theorem f_Change_until {K : PySem.W.Frag} {mg : Str → Option Value} (T : Txt K mg) : ∃ fd, FunD K "until" "Change.until" (defArgs s_Change_until) (defBody s_Change_until) (defScope s_Change_until) [] [] (atM "Change" "until" K) fd := T.c.def_ 11 (d := d_Change_until) rfl
theorem f_Change_result {K : PySem.W.Frag} {mg : Str → Option Value} (T : Txt K mg) : ∃ fd, FunD K "result" "Change.result" (defArgs s_Change_result) (defBody s_Change_result) (defScope s_Change_result) [] [] (atM "Change" "result" K) fd := T.c.def_ 12 (d := d_Change_result) rfl
theorem f_Change_put_new {K : PySem.W.Frag} {mg : Str → Option Value} (T : Txt K mg) : ∃ fd, FunD K "put_new" "Change.put_new" (defArgs s_Change_put_new) (defBody s_Change_put_new) (defScope s_Change_put_new) [] [] (atM "Change" "put_new" K) fd := T.c.def_ 13 (d := d_Change_put_new) rfl
theorem f_Change_moved {K : PySem.W.Frag} {mg : Str → Option Value} (T : Txt K mg) : ∃ fd, FunD K "moved" "Change.moved" (defArgs s_Change_moved) (defBody s_Change_moved) (defScope s_Change_moved) [] [] (atM "Change" "moved" K) fd := T.c.def_ 14 (d := d_Change_moved) rfl
theorem f_Change_tried {K : PySem.W.Frag} {mg : Str → Option Value} (T : Txt K mg) : ∃ fd, FunD K "tried" "Change.tried" (defArgs s_Change_tried) (defBody s_Change_tried) (defScope s_Change_tried) [] [] (atM "Change" "tried" K) fd := T.c.def_ 15 (d := d_Change_tried) rfl
theorem f_Change_take_many {K : PySem.W.Frag} {mg : Str → Option Value} (T : Txt K mg) : ∃ fd, FunD K "take_many" "Change.take_many" (defArgs s_Change_take_many) (defBody s_Change_take_many) (defScope s_Change_take_many) [] [] (atM "Change" "take_many" K) fd := T.c.def_ 16 (d := d_Change_take_many) rfl
theorem f_Change_back_now {K : PySem.W.Frag} {mg : Str → Option Value} (T : Txt K mg) : ∃ fd, FunD K "back_now" "Change.back_now" (defArgs s_Change_back_now) (defBody s_Change_back_now) (defScope s_Change_back_now) [] [] (atM "Change" "back_now" K) fd := T.c.def_ 17 (d := d_Change_back_now) rfl
theorem f_Change_by_token {K : PySem.W.Frag} {mg : Str → Option Value} (T : Txt K mg) : ∃ fd, FunD K "by_token" "Change.by_token" (defArgs s_Change_by_token) (defBody s_Change_by_token) (defScope s_Change_by_token) [] [] (atM "Change" "by_token" K) fd := T.c.def_ 18 (d := d_Change_by_token) rfl
theorem f_Change_let_go {K : PySem.W.Frag} {mg : Str → Option Value} (T : Txt K mg) : ∃ fd, FunD K "let_go" "Change.let_go" (defArgs s_Change_let_go) (defBody s_Change_let_go) (defScope s_Change_let_go) [] [] (atM "Change" "let_go" K) fd := T.c.def_ 19 (d := d_Change_let_go) rfl
theorem f_Change_effect_of {K : PySem.W.Frag} {mg : Str → Option Value} (T : Txt K mg) : ∃ fd, FunD K "effect_of" "Change.effect_of" (defArgs s_Change_effect_of) (defBody s_Change_effect_of) (defScope s_Change_effect_of) [] [] (atM "Change" "effect_of" K) fd := T.c.def_ 20 (d := d_Change_effect_of) rfl
theorem f_Change_follow_up {K : PySem.W.Frag} {mg : Str → Option Value} (T : Txt K mg) : ∃ fd, FunD K "follow_up" "Change.follow_up" (defArgs s_Change_follow_up) (defBody s_Change_follow_up) (defScope s_Change_follow_up) [] [] (atM "Change" "follow_up" K) fd := T.c.def_ 21 (d := d_Change_follow_up) rfl
theorem f_Queue_init {K : PySem.W.Frag} {mg : Str → Option Value} (T : Txt K mg) : ∃ fd, FunD K "__init__" "Queue.__init__" (defArgs s_Queue_init) (defBody s_Queue_init) (defScope s_Queue_init) [] [] (atM "Queue" "__init__" K) fd := T.c.def_ 22 (d := d_Queue_init) rfl
theorem f_Queue_do {K : PySem.W.Frag} {mg : Str → Option Value} (T : Txt K mg) : ∃ fd, FunD K "do" "Queue.do" (defArgs s_Queue_do) (defBody s_Queue_do) (defScope s_Queue_do) [] [] (atM "Queue" "do" K) fd := T.c.def_ 23 (d := d_Queue_do) rfl
theorem f_Queue_time {K : PySem.W.Frag} {mg : Str → Option Value} (T : Txt K mg) : ∃ fd, FunD K "time" "Queue.time" (defArgs s_Queue_time) (defBody s_Queue_time) (defScope s_Queue_time) [] [] (atM "Queue" "time" K) fd := T.c.def_ 24 (d := d_Queue_time) rfl
theorem f_Queue_names {K : PySem.W.Frag} {mg : Str → Option Value} (T : Txt K mg) : ∃ fd, FunD K "names" "Queue.names" (defArgs s_Queue_names) (defBody s_Queue_names) (defScope s_Queue_names) [] [] (atM "Queue" "names" K) fd := T.c.def_ 25 (d := d_Queue_names) rfl
theorem f_Queue_row {K : PySem.W.Frag} {mg : Str → Option Value} (T : Txt K mg) : ∃ fd, FunD K "row" "Queue.row" (defArgs s_Queue_row) (defBody s_Queue_row) (defScope s_Queue_row) [] [] (atM "Queue" "row" K) fd := T.c.def_ 26 (d := d_Queue_row) rfl
theorem f_Queue_free {K : PySem.W.Frag} {mg : Str → Option Value} (T : Txt K mg) : ∃ fd, FunD K "free" "Queue.free" (defArgs s_Queue_free) (defBody s_Queue_free) (defScope s_Queue_free) [] [] (atM "Queue" "free" K) fd := T.c.def_ 27 (d := d_Queue_free) rfl
theorem f_Queue_next_time {K : PySem.W.Frag} {mg : Str → Option Value} (T : Txt K mg) : ∃ fd, FunD K "next_time" "Queue.next_time" (defArgs s_Queue_next_time) (defBody s_Queue_next_time) (defScope s_Queue_next_time) [] [] (atM "Queue" "next_time" K) fd := T.c.def_ 28 (d := d_Queue_next_time) rfl
theorem f_Queue_copied {K : PySem.W.Frag} {mg : Str → Option Value} (T : Txt K mg) : ∃ fd, FunD K "copied" "Queue.copied" (defArgs s_Queue_copied) (defBody s_Queue_copied) (defScope s_Queue_copied) [] [] (atM "Queue" "copied" K) fd := T.c.def_ 29 (d := d_Queue_copied) rfl
theorem f_is_part {K : PySem.W.Frag} {mg : Str → Option Value} (T : Txt K mg) : ∃ fd, FunD K "is_part" "is_part" (defArgs s_is_part) (defBody s_is_part) (defScope s_is_part) [] [] (atG "is_part" K) fd := T.c.def_ 30 (d := d_is_part) rfl
theorem f_is_plan {K : PySem.W.Frag} {mg : Str → Option Value} (T : Txt K mg) : ∃ fd, FunD K "is_plan" "is_plan" (defArgs s_is_plan) (defBody s_is_plan) (defScope s_is_plan) [] [] (atG "is_plan" K) fd := T.c.def_ 31 (d := d_is_plan) rfl
theorem f_read_plan {K : PySem.W.Frag} {mg : Str → Option Value} (T : Txt K mg) : ∃ fd, FunD K "read_plan" "read_plan" (defArgs s_read_plan) (defBody s_read_plan) (defScope s_read_plan) [] [] (atG "read_plan" K) fd := T.c.def_ 32 (d := d_read_plan) rfl
theorem f_is_plan_text {K : PySem.W.Frag} {mg : Str → Option Value} (T : Txt K mg) : ∃ fd, FunD K "is_plan_text" "is_plan_text" (defArgs s_is_plan_text) (defBody s_is_plan_text) (defScope s_is_plan_text) [] [] (atG "is_plan_text" K) fd := T.c.def_ 33 (d := d_is_plan_text) rfl
theorem f_is_value {K : PySem.W.Frag} {mg : Str → Option Value} (T : Txt K mg) : ∃ fd, FunD K "is_value" "is_value" (defArgs s_is_value) (defBody s_is_value) (defScope s_is_value) [] [] (atG "is_value" K) fd := T.c.def_ 34 (d := d_is_value) rfl
theorem f_is_line {K : PySem.W.Frag} {mg : Str → Option Value} (T : Txt K mg) : ∃ fd, FunD K "is_line" "is_line" (defArgs s_is_line) (defBody s_is_line) (defScope s_is_line) [] [] (atG "is_line" K) fd := T.c.def_ 35 (d := d_is_line) rfl
theorem f_word_of {K : PySem.W.Frag} {mg : Str → Option Value} (T : Txt K mg) : ∃ fd, FunD K "word_of" "word_of" (defArgs s_word_of) (defBody s_word_of) (defScope s_word_of) [] [] (atG "word_of" K) fd := T.c.def_ 36 (d := d_word_of) rfl
theorem f_first_bad {K : PySem.W.Frag} {mg : Str → Option Value} (T : Txt K mg) : ∃ fd, FunD K "first_bad" "first_bad" (defArgs s_first_bad) (defBody s_first_bad) (defScope s_first_bad) [] [] (atG "first_bad" K) fd := T.c.def_ 37 (d := d_first_bad) rfl
theorem f_number_or_word {K : PySem.W.Frag} {mg : Str → Option Value} (T : Txt K mg) : ∃ fd, FunD K "number_or_word" "number_or_word" (defArgs s_number_or_word) (defBody s_number_or_word) (defScope s_number_or_word) [] [] (atG "number_or_word" K) fd := T.c.def_ 38 (d := d_number_or_word) rfl
theorem f_Setting_init {K : PySem.W.Frag} {mg : Str → Option Value} (T : Txt K mg) : ∃ fd, FunD K "__init__" "Setting.__init__" (defArgs s_Setting_init) (defBody s_Setting_init) (defScope s_Setting_init) [.ref (He.dflAt ("Setting", some "__init__") 0 K)] [] (atM "Setting" "__init__" K) fd := T.c.def_ 39 (d := d_Setting_init) rfl
theorem f_Setting_eq {K : PySem.W.Frag} {mg : Str → Option Value} (T : Txt K mg) : ∃ fd, FunD K "__eq__" "Setting.__eq__" (defArgs s_Setting_eq) (defBody s_Setting_eq) (defScope s_Setting_eq) [] [] (atM "Setting" "__eq__" K) fd := T.c.def_ 40 (d := d_Setting_eq) rfl
theorem f_Setting_order {K : PySem.W.Frag} {mg : Str → Option Value} (T : Txt K mg) : ∃ fd, FunD K "order" "Setting.order" (defArgs s_Setting_order) (defBody s_Setting_order) (defScope s_Setting_order) [] [] (propG "Setting" "order" K) fd := T.c.def_ 41 (d := d_Setting_order) rfl
theorem f_Setting_skip {K : PySem.W.Frag} {mg : Str → Option Value} (T : Txt K mg) : ∃ fd, FunD K "skip" "Setting.skip" (defArgs s_Setting_skip) (defBody s_Setting_skip) (defScope s_Setting_skip) [] [] (propG "Setting" "skip" K) fd := T.c.def_ 42 (d := d_Setting_skip) rfl
theorem f_Setting_hold {K : PySem.W.Frag} {mg : Str → Option Value} (T : Txt K mg) : ∃ fd, FunD K "hold" "Setting.hold" (defArgs s_Setting_hold) (defBody s_Setting_hold) (defScope s_Setting_hold) [] [] (propG "Setting" "hold" K) fd := T.c.def_ 43 (d := d_Setting_hold) rfl
theorem f_Setting_fence {K : PySem.W.Frag} {mg : Str → Option Value} (T : Txt K mg) : ∃ fd, FunD K "fence" "Setting.fence" (defArgs s_Setting_fence) (defBody s_Setting_fence) (defScope s_Setting_fence) [] [] (propG "Setting" "fence" K) fd := T.c.def_ 44 (d := d_Setting_fence) rfl
theorem f_Setting_tries {K : PySem.W.Frag} {mg : Str → Option Value} (T : Txt K mg) : ∃ fd, FunD K "tries" "Setting.tries" (defArgs s_Setting_tries) (defBody s_Setting_tries) (defScope s_Setting_tries) [] [] (propG "Setting" "tries" K) fd := T.c.def_ 45 (d := d_Setting_tries) rfl
theorem f_Setting_counted {K : PySem.W.Frag} {mg : Str → Option Value} (T : Txt K mg) : ∃ fd, FunD K "counted" "Setting.counted" (defArgs s_Setting_counted) (defBody s_Setting_counted) (defScope s_Setting_counted) [] [] (propG "Setting" "counted" K) fd := T.c.def_ 46 (d := d_Setting_counted) rfl
theorem f_Setting_pause {K : PySem.W.Frag} {mg : Str → Option Value} (T : Txt K mg) : ∃ fd, FunD K "pause" "Setting.pause" (defArgs s_Setting_pause) (defBody s_Setting_pause) (defScope s_Setting_pause) [] [] (propG "Setting" "pause" K) fd := T.c.def_ 47 (d := d_Setting_pause) rfl
theorem f_Setting_dead {K : PySem.W.Frag} {mg : Str → Option Value} (T : Txt K mg) : ∃ fd, FunD K "dead" "Setting.dead" (defArgs s_Setting_dead) (defBody s_Setting_dead) (defScope s_Setting_dead) [] [] (propG "Setting" "dead" K) fd := T.c.def_ 48 (d := d_Setting_dead) rfl
theorem f_Setting_once {K : PySem.W.Frag} {mg : Str → Option Value} (T : Txt K mg) : ∃ fd, FunD K "once" "Setting.once" (defArgs s_Setting_once) (defBody s_Setting_once) (defScope s_Setting_once) [] [] (propG "Setting" "once" K) fd := T.c.def_ 49 (d := d_Setting_once) rfl
theorem f_Book_init {K : PySem.W.Frag} {mg : Str → Option Value} (T : Txt K mg) : ∃ fd, FunD K "__init__" "Book.__init__" (defArgs s_Book_init) (defBody s_Book_init) (defScope s_Book_init) [] [] (atM "Book" "__init__" K) fd := T.c.def_ 50 (d := d_Book_init) rfl
theorem f_Book_eq {K : PySem.W.Frag} {mg : Str → Option Value} (T : Txt K mg) : ∃ fd, FunD K "__eq__" "Book.__eq__" (defArgs s_Book_eq) (defBody s_Book_eq) (defScope s_Book_eq) [] [] (atM "Book" "__eq__" K) fd := T.c.def_ 51 (d := d_Book_eq) rfl
theorem f_Book_turn_to {K : PySem.W.Frag} {mg : Str → Option Value} (T : Txt K mg) : ∃ fd, FunD K "turn_to" "Book.turn_to" (defArgs s_Book_turn_to) (defBody s_Book_turn_to) (defScope s_Book_turn_to) [] [] (atM "Book" "turn_to" K) fd := T.c.def_ 52 (d := d_Book_turn_to) rfl
theorem f_Book_do {K : PySem.W.Frag} {mg : Str → Option Value} (T : Txt K mg) : ∃ fd, FunD K "do" "Book.do" (defArgs s_Book_do) (defBody s_Book_do) (defScope s_Book_do) [] [] (atM "Book" "do" K) fd := T.c.def_ 53 (d := d_Book_do) rfl
theorem f_Book_late {K : PySem.W.Frag} {mg : Str → Option Value} (T : Txt K mg) : ∃ fd, FunD K "late" "Book.late" (defArgs s_Book_late) (defBody s_Book_late) (defScope s_Book_late) [] [] (atM "Book" "late" K) fd := T.c.def_ 54 (d := d_Book_late) rfl
theorem f_Book_back {K : PySem.W.Frag} {mg : Str → Option Value} (T : Txt K mg) : ∃ fd, FunD K "back" "Book.back" (defArgs s_Book_back) (defBody s_Book_back) (defScope s_Book_back) [] [] (atM "Book" "back" K) fd := T.c.def_ 55 (d := d_Book_back) rfl
theorem f_Book_log {K : PySem.W.Frag} {mg : Str → Option Value} (T : Txt K mg) : ∃ fd, FunD K "log" "Book.log" (defArgs s_Book_log) (defBody s_Book_log) (defScope s_Book_log) [] [] (atM "Book" "log" K) fd := T.c.def_ 56 (d := d_Book_log) rfl
theorem f_Book_queue {K : PySem.W.Frag} {mg : Str → Option Value} (T : Txt K mg) : ∃ fd, FunD K "queue" "Book.queue" (defArgs s_Book_queue) (defBody s_Book_queue) (defScope s_Book_queue) [] [] (atM "Book" "queue" K) fd := T.c.def_ 57 (d := d_Book_queue) rfl
theorem f_Book_queue_at {K : PySem.W.Frag} {mg : Str → Option Value} (T : Txt K mg) : ∃ fd, FunD K "queue_at" "Book.queue_at" (defArgs s_Book_queue_at) (defBody s_Book_queue_at) (defScope s_Book_queue_at) [] [] (atM "Book" "queue_at" K) fd := T.c.def_ 58 (d := d_Book_queue_at) rfl
theorem f_l_bag {K : PySem.W.Frag} {mg : Str → Option Value} (T : Txt K mg) : ∃ fd, FunD K "_law_bag" "_law_bag" (defArgs s_l_bag) (defBody s_l_bag) (defScope s_l_bag) [] [] (atG "_law_bag" K) fd := T.c.def_ 59 (d := d_l_bag) rfl
theorem f_l_take {K : PySem.W.Frag} {mg : Str → Option Value} (T : Txt K mg) : ∃ fd, FunD K "_law_take" "_law_take" (defArgs s_l_take) (defBody s_l_take) (defScope s_l_take) [] [] (atG "_law_take" K) fd := T.c.def_ 60 (d := d_l_take) rfl
theorem f_l_lines {K : PySem.W.Frag} {mg : Str → Option Value} (T : Txt K mg) : ∃ fd, FunD K "_law_lines" "_law_lines" (defArgs s_l_lines) (defBody s_l_lines) (defScope s_l_lines) [] [] (atG "_law_lines" K) fd := T.c.def_ 61 (d := d_l_lines) rfl
theorem f_l_names {K : PySem.W.Frag} {mg : Str → Option Value} (T : Txt K mg) : ∃ fd, FunD K "_law_names" "_law_names" (defArgs s_l_names) (defBody s_l_names) (defScope s_l_names) [] [] (atG "_law_names" K) fd := T.c.def_ 62 (d := d_l_names) rfl
theorem f_l_shown {K : PySem.W.Frag} {mg : Str → Option Value} (T : Txt K mg) : ∃ fd, FunD K "_law_shown" "_law_shown" (defArgs s_l_shown) (defBody s_l_shown) (defScope s_l_shown) [] [] (atG "_law_shown" K) fd := T.c.def_ 63 (d := d_l_shown) rfl
theorem f_l_some {K : PySem.W.Frag} {mg : Str → Option Value} (T : Txt K mg) : ∃ fd, FunD K "_law_some" "_law_some" (defArgs s_l_some) (defBody s_l_some) (defScope s_l_some) [] [] (atG "_law_some" K) fd := T.c.def_ 64 (d := d_l_some) rfl
theorem f_law {K : PySem.W.Frag} {mg : Str → Option Value} (T : Txt K mg) : ∃ fd, FunD K "law" "law" (defArgs s_law) (defBody s_law) (defScope s_law) [] [] (atG "law" K) fd := T.c.def_ 65 (d := d_law) rfl
end RQ
set_option Elab.async false
set_option linter.all false
set_option maxRecDepth 100000
set_option maxHeartbeats 4000000
namespace RQ
open PySem PySem.Spec PyProof.Rows L2 Dx

/-! ### a setting: its texts by words -/
abbrev Cfg := List (Str × Str)
def kvsS (S : Cfg) : List (Key × V) := S.map fun p => (Sum.inr p.1, V.str p.2)
theorem val_kvsS {k v : Str} : ∀ {S : Cfg}, S.lookup k = some v → valV (kvsS S) (Sum.inr k) = some (.str v)
  | [], h => by simp at h
  | (k0, v0) :: S, h => by
    by_cases e : k = k0
    · subst e
      rw [List.lookup_cons] at h
      simp at h
      subst h
      exact valV_pos rfl
    · have ih := val_kvsS (k := k) (v := v) (S := S) (by
        rw [List.lookup_cons] at h
        have : (k == k0) = false := beq_eq_false_iff_ne.mpr e
        rw [this] at h
        exact h)
      show valV ((Sum.inr k0, V.str v0) :: kvsS S) (Sum.inr k) = _
      rw [valV_neg (fun q => e (Sum.inr.inj q).symm)]
      exact ih
def SetAt (K : PySem.W.Frag) (H : Hp) (a : Addr) (S : Cfg) : Prop := ∃ dx t, H a = some (.ins (atG "Setting" K) dx [("texts", .ref t)]) ∧ H t = some (.dK (kvsS S))
theorem SetAt.same {K : PySem.W.Frag} {H H' : Hp} {a : Addr} {S : Cfg} (h : SetAt K H a S) (e : Same H H') : SetAt K H' a S := let ⟨dx, t, h1, h2⟩ := h; ⟨dx, t, e _ _ h1, e _ _ h2⟩
def NumOk (x : Str) : Prop := Txt.isdigit x = true → ∃ n, PySem.intText? x = some n ∧ x.length ≤ 640
def numW (x : Str) : D := if Txt.isdigit x = true then .int ((PySem.intText? x).getD 0) else .str x
structure PauseOk (v : Str) : Prop where
  len : v.length ≤ 1000
  parts : ∀ x ∈ Txt.split v " ", ∃ n, PySem.intText? x = some n ∧ x.length ≤ 640
  some_ : Txt.split v " " ≠ []
  few : (Txt.split v " ").length ≤ 1000
structure SOk (S : Cfg) : Prop where
  order : ∃ v, S.lookup ("order" : Str) = some v
  skip : ∃ v, S.lookup ("skip" : Str) = some v
  fence : ∃ v, S.lookup ("fence" : Str) = some v
  count : ∃ v, S.lookup ("count" : Str) = some v
  dead : ∃ v, S.lookup ("dead" : Str) = some v
  hold : ∃ v, S.lookup ("hold" : Str) = some v ∧ NumOk v
  tries : ∃ v, S.lookup ("tries" : Str) = some v ∧ NumOk v
  once : ∃ v, S.lookup ("once" : Str) = some v ∧ NumOk v
  pause : ∃ v, S.lookup ("pause" : Str) = some v ∧ PauseOk v
def sg (S : Cfg) (k : Str) : Str := (S.lookup k).getD Str.empty
theorem sg_of {S : Cfg} {k v : Str} (h : S.lookup k = some v) : sg S k = v := by unfold sg; rw [h]; rfl
def pauseL (S : Cfg) : List Int := (Txt.split (sg S "pause") " ").map fun x => (PySem.intText? x).getD 0

section
variable {P : Program} {w : World} {K : PySem.W.Frag} {mg : Str → Option Value} {base : Heap}
/-! ### is_integer -/
def isIntD : D → Bool
  | .int _ => true
  | _ => false
def preIsInt : Hp → List D → D → Prop := fun _ ds d => ∃ x T, ds = [x] ∧ TyD x T ∧ d = .bl (isIntD x)
theorem sc_is_integer : FnScope ["thing"] ["thing"] (defScope s_is_integer) := ⟨rfl, rfl, rfl, by decide +kernel, rfl, by decide +kernel, by decide +kernel⟩
theorem h_is_integer (T : Txt K mg) : Has P w K mg base 1 (atG "is_integer" K) ["thing"] (spF K preIsInt) := by
  obtain ⟨fd, F⟩ := f_is_integer T
  refine ⟨fd, okF F sc_is_integer (fun H ds d h => ?_) (fun H H' ds d _ h => h) fun cdv A outer s H E M ds d hr h => ?_, F.bindsN fun _ _ _ _ _ _ us hl => match us, hl with | [_], _ => rfl, F.kp⟩
  · obtain ⟨x, T, rfl, _⟩ := h
    rfl
  · obtain ⟨x, Ty, rfl, ty, rfl⟩ := h
    refine ⟨.rt (As.same H) _, ⟨fun _ h => h, rfl⟩, ?_⟩
    cases ty with
    | non => exact ss_one (s_ret (e_and2 (k := false) (j := true) (e_isi "int" (n_isinstance T) (e_var 0) (n_int T) .non) (fun h => by cases h)))
    | bl b => exact ss_one (s_ret (e_and2 (k := true) (j := false) (e_isi "int" (n_isinstance T) (e_var 0) (n_int T) (.bl b)) fun _ => e_not (k := true) (e_isi "bool" (n_isinstance T) (e_var 0) (n_bool T) (.bl b))))
    | int i => exact ss_one (s_ret (e_and2 (k := true) (j := true) (e_isi "int" (n_isinstance T) (e_var 0) (n_int T) (.int i)) fun _ => e_not (k := false) (e_isi "bool" (n_isinstance T) (e_var 0) (n_bool T) (.int i))))
    | str x => exact ss_one (s_ret (e_and2 (k := false) (j := true) (e_isi "int" (n_isinstance T) (e_var 0) (n_int T) (.str x)) (fun h => by cases h)))
    | lst ds => exact ss_one (s_ret (e_and2 (k := false) (j := true) (e_isi "int" (n_isinstance T) (e_var 0) (n_int T) (.lst ds)) (fun h => by cases h)))
    | tup ds => exact ss_one (s_ret (e_and2 (k := false) (j := true) (e_isi "int" (n_isinstance T) (e_var 0) (n_int T) (.tup ds)) (fun h => by cases h)))
end
end RQ
namespace Dx
open PySem PySem.Spec PyProof.Rows L2
section
variable {X : Cx} {M : AS} {A B C G : As} {δ δ' : LS} {pos p p2 apos cpos : Pos} {x y z d : D} {a b e o tg iter : Expr} {items : List D}
theorem e_isdigit {z : Str} (ho : PE X o (tC X.K M A δ B (.str z))) (hbase : attributeBase o "isdigit" X.env (eval o X.env) = eval o X.env := by rfl) (hline : (apos.endLine == pos.line) = true := by rfl) : PE X (.Call (.Attribute o "isdigit" apos) [] [] pos) (tC X.K M A δ B (.bl (Txt.isdigit z))) :=
  pe_imp (pe_m0 PySem.F.slot_str_isdigit PySem.F.type_str_isdigit mt_isdigit ho hbase hline) fun σ H Q ⟨s, q⟩ => ⟨s, fun v H1 k1 b1 r1 => by
    cases r1
    exact ⟨⟨z, rfl⟩, z, rfl, rfl, trivial, q _ H1 k1 b1 (.bl _)⟩⟩
theorem e_intS {z : Str} {n : Int} (hm : X.mg "int" = none) (h : PE X e (tC X.K M A δ B (.str z))) (h1 : PySem.intText? z = some n) (h2 : z.length ≤ 640) (hg : Gl X "int" := by rfl) (hs : starEach (e :: []) X.env = (false, eval e X.env) :: starEach [] X.env := by rfl) (hpl : (backTo pos (starEach [] X.env)).any (·.1) = false := by rfl) :
    PE X (.Call (.Name "int" p) [e] [] pos) (tC X.K M A δ B (.int n)) :=
  e_callTy call_int_str (a_one h hs) (fun H vs c t r Q q => by
    cases r with
    | cons r1 r2 =>
      cases r2
      cases r1
      exact ⟨z, n, rfl, h1, h2, q _ H (Same.refl H) (.int n)⟩) hm (by decide +kernel) hg (by decide) (by decide) hs hpl
theorem e_tupleL {ds : List D} (hm : X.mg "tuple" = none) (h : PE X e (tC X.K M A δ B (.lst ds))) (hg : Gl X "tuple" := by rfl) (hs : starEach (e :: []) X.env = (false, eval e X.env) :: starEach [] X.env := by rfl) (hpl : (backTo pos (starEach [] X.env)).any (·.1) = false := by rfl) :
    PE X (.Call (.Name "tuple" p) [e] [] pos) (tC X.K M A δ B (.tup ds)) := e_callTy call_tuple_of (a_one h hs) rc_tupL hm (by decide +kernel) hg (by decide) (by decide) hs hpl
theorem e_listL {ds : List D} (hm : X.mg "list" = none) (h : PE X e (tC X.K M A δ B (.lst ds))) (hg : Gl X "list" := by rfl) (hs : starEach (e :: []) X.env = (false, eval e X.env) :: starEach [] X.env := by rfl) (hpl : (backTo pos (starEach [] X.env)).any (·.1) = false := by rfl) :
    PE X (.Call (.Name "list" p) [e] [] pos) (tC X.K M A δ B (.lst ds)) := e_callTy call_list_of (a_one h hs) rc_listL hm (by decide +kernel) hg (by decide) (by decide) hs hpl
theorem e_listT {ds : List D} (hm : X.mg "list" = none) (h : PE X e (tC X.K M A δ B (.tup ds))) (hg : Gl X "list" := by rfl) (hs : starEach (e :: []) X.env = (false, eval e X.env) :: starEach [] X.env := by rfl) (hpl : (backTo pos (starEach [] X.env)).any (·.1) = false := by rfl) :
    PE X (.Call (.Name "list" p) [e] [] pos) (tC X.K M A δ B (.lst ds)) := e_callTy call_list_of (a_one h hs) rc_listT hm (by decide +kernel) hg (by decide) (by decide) hs hpl
end
end Dx
namespace RQ
open PySem PySem.Spec PyProof.Rows L2 Dx
section
variable {P : Program} {w : World} {K : PySem.W.Frag} {mg : Str → Option Value} {base : Heap}
/-! ### number_or_word -/
theorem sc_number_or_word : FnScope ["text"] ["text"] (defScope s_number_or_word) := ⟨rfl, rfl, rfl, by decide +kernel, rfl, by decide +kernel, by decide +kernel⟩
def preNum : Hp → List D → D → Prop := fun _ ds d => ∃ x, ds = [.str x] ∧ NumOk x ∧ d = numW x
theorem h_number_or_word (T : Txt K mg) : Has P w K mg base 1 (atG "number_or_word" K) ["text"] (spF K preNum) := by
  obtain ⟨fd, F⟩ := f_number_or_word T
  refine ⟨fd, okF F sc_number_or_word (fun H ds d h => ?_) (fun H H' ds d _ h => h) fun cdv A outer s H E M ds d hr h => ?_, F.bindsN fun _ _ _ _ _ _ us hl => match us, hl with | [_], _ => rfl, F.kp⟩
  · obtain ⟨x, rfl, _⟩ := h
    rfl
  · obtain ⟨x, rfl, hx, rfl⟩ := h
    refine ⟨.rt (As.same H) _, ⟨fun _ h => h, rfl⟩, ss_one (s_ret (e_ifx (t_val (e_isdigit (e_var 0))) (fun h => ?_) fun h => ?_))⟩
    · obtain ⟨n, h1, h2⟩ := hx h
      refine e_is (e_intS (n_int T) (e_var 0) h1 h2) ?_
      unfold numW
      rw [if_pos h, h1] <;> rfl
    · refine e_is (e_var 0) ?_
      unfold numW
      rw [if_neg (by rw [h]; decide)]
/-! ### the properties of a setting -/
def preSet (g : Cfg → D) : PySem.W.Frag → Hp → List D → D → Prop := fun K H ds d => ∃ a S, ds = [.ref a] ∧ SetAt K H a S ∧ SOk S ∧ d = g S
theorem preSet_mono {g : Cfg → D} (H H' : Hp) (ds : List D) (d : D) (e : Same H H') (h : preSet g K H ds d) : preSet g K H' ds d := let ⟨a, S, h1, h2, h3, h4⟩ := h; ⟨a, S, h1, h2.same e, h3, h4⟩
theorem set_fld (T : Txt K mg) {M : AS} {a : Addr} {S : Cfg} {H : Hp} (h : SetAt K H a S) : ∃ t, (∀ H', Same H H' → ∃ Cl dx fs v, H' a = some (.ins Cl dx fs) ∧ Cls K Cl ∧ NoAttr K Cl "texts" ∧ fs.lookup ("texts" : Str) = some v ∧ Rp K M H' v (.ref t)) ∧
    ∀ H', Same H H' → ∀ k v, S.lookup k = some v → ∃ kvs u, H' t = some (.dK kvs) ∧ valV kvs (Sum.inr k) = some u ∧ Rp K M H' u (.str v) := by
  obtain ⟨dx, t, h1, h2⟩ := h
  refine ⟨t, fun H' e => ⟨_, dx, _, _, e _ _ h1, cl_Setting T, na_Setting_texts T, by rfl, .ref t⟩, fun H' e k v hk => ⟨_, _, e _ _ h2, val_kvsS hk, .str v⟩⟩
theorem sc_Setting_order : FnScope ["self"] ["self"] (defScope s_Setting_order) := ⟨rfl, rfl, rfl, by decide +kernel, rfl, by decide +kernel, by decide +kernel⟩
theorem h_order (T : Txt K mg) : Has P w K mg base 1 (propG "Setting" "order" K) ["self"] (spF K (preSet (fun S => .str (sg S "order")) K)) := by
  obtain ⟨fd, F⟩ := f_Setting_order T
  refine ⟨fd, okF F sc_Setting_order (fun H ds d h => ?_) preSet_mono fun cdv A outer s H E M ds d hr h => ?_, F.bindsN fun _ _ _ _ _ _ us hl => match us, hl with | [_], _ => rfl, F.kp⟩
  · obtain ⟨a, S, rfl, _⟩ := h
    rfl
  · obtain ⟨a, S, rfl, hS, ok, rfl⟩ := h
    obtain ⟨t, h1, h2⟩ := set_fld T (M := M) hS
    obtain ⟨v, hv⟩ := ok.order
    exact ⟨.rt (As.same H) (.str v), ⟨fun _ h => h, congrArg D.str (sg_of hv).symm⟩, ss_one (s_ret (e_dget (hu_of hr) (e_fld (e_var 0) h1) e_str fun H' e => h2 H' e _ _ hv))⟩
theorem sc_Setting_counted : FnScope ["self"] ["self"] (defScope s_Setting_counted) := ⟨rfl, rfl, rfl, by decide +kernel, rfl, by decide +kernel, by decide +kernel⟩
theorem h_counted (T : Txt K mg) : Has P w K mg base 1 (propG "Setting" "counted" K) ["self"] (spF K (preSet (fun S => .str (sg S "count")) K)) := by
  obtain ⟨fd, F⟩ := f_Setting_counted T
  refine ⟨fd, okF F sc_Setting_counted (fun H ds d h => ?_) preSet_mono fun cdv A outer s H E M ds d hr h => ?_, F.bindsN fun _ _ _ _ _ _ us hl => match us, hl with | [_], _ => rfl, F.kp⟩
  · obtain ⟨a, S, rfl, _⟩ := h
    rfl
  · obtain ⟨a, S, rfl, hS, ok, rfl⟩ := h
    obtain ⟨t, h1, h2⟩ := set_fld T (M := M) hS
    obtain ⟨v, hv⟩ := ok.count
    exact ⟨.rt (As.same H) (.str v), ⟨fun _ h => h, congrArg D.str (sg_of hv).symm⟩, ss_one (s_ret (e_dget (hu_of hr) (e_fld (e_var 0) h1) e_str fun H' e => h2 H' e _ _ hv))⟩
theorem sc_Setting_dead : FnScope ["self"] ["self"] (defScope s_Setting_dead) := ⟨rfl, rfl, rfl, by decide +kernel, rfl, by decide +kernel, by decide +kernel⟩
theorem h_dead (T : Txt K mg) : Has P w K mg base 1 (propG "Setting" "dead" K) ["self"] (spF K (preSet (fun S => .str (sg S "dead")) K)) := by
  obtain ⟨fd, F⟩ := f_Setting_dead T
  refine ⟨fd, okF F sc_Setting_dead (fun H ds d h => ?_) preSet_mono fun cdv A outer s H E M ds d hr h => ?_, F.bindsN fun _ _ _ _ _ _ us hl => match us, hl with | [_], _ => rfl, F.kp⟩
  · obtain ⟨a, S, rfl, _⟩ := h
    rfl
  · obtain ⟨a, S, rfl, hS, ok, rfl⟩ := h
    obtain ⟨t, h1, h2⟩ := set_fld T (M := M) hS
    obtain ⟨v, hv⟩ := ok.dead
    exact ⟨.rt (As.same H) (.str v), ⟨fun _ h => h, congrArg D.str (sg_of hv).symm⟩, ss_one (s_ret (e_dget (hu_of hr) (e_fld (e_var 0) h1) e_str fun H' e => h2 H' e _ _ hv))⟩
theorem sc_Setting_skip : FnScope ["self"] ["self"] (defScope s_Setting_skip) := ⟨rfl, rfl, rfl, by decide +kernel, rfl, by decide +kernel, by decide +kernel⟩
theorem h_skip (T : Txt K mg) : Has P w K mg base 1 (propG "Setting" "skip" K) ["self"] (spF K (preSet (fun S => .bl (decide (sg S "skip" = "yes"))) K)) := by
  obtain ⟨fd, F⟩ := f_Setting_skip T
  refine ⟨fd, okF F sc_Setting_skip (fun H ds d h => ?_) preSet_mono fun cdv A outer s H E M ds d hr h => ?_, F.bindsN fun _ _ _ _ _ _ us hl => match us, hl with | [_], _ => rfl, F.kp⟩
  · obtain ⟨a, S, rfl, _⟩ := h
    rfl
  · obtain ⟨a, S, rfl, hS, ok, rfl⟩ := h
    obtain ⟨t, h1, h2⟩ := set_fld T (M := M) hS
    obtain ⟨v, hv⟩ := ok.skip
    exact ⟨.rt (As.same H) (.bl (decide (v = "yes"))), ⟨fun _ h => h, by show D.bl _ = D.bl (decide (sg S "skip" = "yes")); rw [sg_of hv]⟩, ss_one (s_ret (e_eqS (e_dget (hu_of hr) (e_fld (e_var 0) h1) e_str fun H' e => h2 H' e _ _ hv) e_str))⟩
theorem sc_Setting_fence : FnScope ["self"] ["self"] (defScope s_Setting_fence) := ⟨rfl, rfl, rfl, by decide +kernel, rfl, by decide +kernel, by decide +kernel⟩
theorem h_fence (T : Txt K mg) : Has P w K mg base 1 (propG "Setting" "fence" K) ["self"] (spF K (preSet (fun S => .bl (decide (sg S "fence" = "yes"))) K)) := by
  obtain ⟨fd, F⟩ := f_Setting_fence T
  refine ⟨fd, okF F sc_Setting_fence (fun H ds d h => ?_) preSet_mono fun cdv A outer s H E M ds d hr h => ?_, F.bindsN fun _ _ _ _ _ _ us hl => match us, hl with | [_], _ => rfl, F.kp⟩
  · obtain ⟨a, S, rfl, _⟩ := h
    rfl
  · obtain ⟨a, S, rfl, hS, ok, rfl⟩ := h
    obtain ⟨t, h1, h2⟩ := set_fld T (M := M) hS
    obtain ⟨v, hv⟩ := ok.fence
    exact ⟨.rt (As.same H) (.bl (decide (v = "yes"))), ⟨fun _ h => h, by show D.bl _ = D.bl (decide (sg S "fence" = "yes")); rw [sg_of hv]⟩, ss_one (s_ret (e_eqS (e_dget (hu_of hr) (e_fld (e_var 0) h1) e_str fun H' e => h2 H' e _ _ hv) e_str))⟩
theorem sc_Setting_hold : FnScope ["self"] ["self"] (defScope s_Setting_hold) := ⟨rfl, rfl, rfl, by decide +kernel, rfl, by decide +kernel, by decide +kernel⟩
theorem h_hold (T : Txt K mg) : Has P w K mg base 2 (propG "Setting" "hold" K) ["self"] (spF K (preSet (fun S => numW (sg S "hold")) K)) := by
  obtain ⟨fd, F⟩ := f_Setting_hold T
  refine ⟨fd, okF F sc_Setting_hold (fun H ds d h => ?_) preSet_mono fun cdv A outer s H E M ds d hr h => ?_, F.bindsN fun _ _ _ _ _ _ us hl => match us, hl with | [_], _ => rfl, F.kp⟩
  · obtain ⟨a, S, rfl, _⟩ := h
    rfl
  · obtain ⟨a, S, rfl, hS, ok, rfl⟩ := h
    obtain ⟨t, h1, h2⟩ := set_fld T (M := M) hS
    obtain ⟨v, hv, hn⟩ := ok.hold
    exact ⟨.rt (As.same H) (numW v), ⟨fun _ h => h, by show numW _ = numW (sg S "hold"); rw [sg_of hv]⟩, ss_one (s_ret (c_call (h_number_or_word T) hr (g_number_or_word T) (a_one (e_dget (hu_of hr) (e_fld (e_var 0) h1) e_str fun H' e => h2 H' e _ _ hv)) (spF_ok fun H' _ => ⟨v, rfl, hn, rfl⟩)))⟩
theorem sc_Setting_tries : FnScope ["self"] ["self"] (defScope s_Setting_tries) := ⟨rfl, rfl, rfl, by decide +kernel, rfl, by decide +kernel, by decide +kernel⟩
theorem h_tries (T : Txt K mg) : Has P w K mg base 2 (propG "Setting" "tries" K) ["self"] (spF K (preSet (fun S => numW (sg S "tries")) K)) := by
  obtain ⟨fd, F⟩ := f_Setting_tries T
  refine ⟨fd, okF F sc_Setting_tries (fun H ds d h => ?_) preSet_mono fun cdv A outer s H E M ds d hr h => ?_, F.bindsN fun _ _ _ _ _ _ us hl => match us, hl with | [_], _ => rfl, F.kp⟩
  · obtain ⟨a, S, rfl, _⟩ := h
    rfl
  · obtain ⟨a, S, rfl, hS, ok, rfl⟩ := h
    obtain ⟨t, h1, h2⟩ := set_fld T (M := M) hS
    obtain ⟨v, hv, hn⟩ := ok.tries
    exact ⟨.rt (As.same H) (numW v), ⟨fun _ h => h, by show numW _ = numW (sg S "tries"); rw [sg_of hv]⟩, ss_one (s_ret (c_call (h_number_or_word T) hr (g_number_or_word T) (a_one (e_dget (hu_of hr) (e_fld (e_var 0) h1) e_str fun H' e => h2 H' e _ _ hv)) (spF_ok fun H' _ => ⟨v, rfl, hn, rfl⟩)))⟩
theorem sc_Setting_once : FnScope ["self"] ["self"] (defScope s_Setting_once) := ⟨rfl, rfl, rfl, by decide +kernel, rfl, by decide +kernel, by decide +kernel⟩
theorem h_once (T : Txt K mg) : Has P w K mg base 2 (propG "Setting" "once" K) ["self"] (spF K (preSet (fun S => numW (sg S "once")) K)) := by
  obtain ⟨fd, F⟩ := f_Setting_once T
  refine ⟨fd, okF F sc_Setting_once (fun H ds d h => ?_) preSet_mono fun cdv A outer s H E M ds d hr h => ?_, F.bindsN fun _ _ _ _ _ _ us hl => match us, hl with | [_], _ => rfl, F.kp⟩
  · obtain ⟨a, S, rfl, _⟩ := h
    rfl
  · obtain ⟨a, S, rfl, hS, ok, rfl⟩ := h
    obtain ⟨t, h1, h2⟩ := set_fld T (M := M) hS
    obtain ⟨v, hv, hn⟩ := ok.once
    exact ⟨.rt (As.same H) (numW v), ⟨fun _ h => h, by show numW _ = numW (sg S "once"); rw [sg_of hv]⟩, ss_one (s_ret (c_call (h_number_or_word T) hr (g_number_or_word T) (a_one (e_dget (hu_of hr) (e_fld (e_var 0) h1) e_str fun H' e => h2 H' e _ _ hv)) (spF_ok fun H' _ => ⟨v, rfl, hn, rfl⟩)))⟩
theorem sc_Setting_pause : FnScope ["self", "number"] ["self"] (defScope s_Setting_pause) := ⟨rfl, rfl, rfl, by decide +kernel, rfl, by decide +kernel, by decide +kernel⟩
theorem h_pause (T : Txt K mg) : Has P w K mg base 1 (propG "Setting" "pause" K) ["self"] (spF K (preSet (fun S => .tup ((pauseL S).map D.int)) K)) := by
  obtain ⟨fd, F⟩ := f_Setting_pause T
  refine ⟨fd, okF F sc_Setting_pause (fun H ds d h => ?_) preSet_mono fun cdv A outer s H E M ds d hr h => ?_, F.bindsN fun _ _ _ _ _ _ us hl => match us, hl with | [_], _ => rfl, F.kp⟩
  · obtain ⟨a, S, rfl, _⟩ := h
    rfl
  · obtain ⟨a, S, rfl, hS, ok, rfl⟩ := h
    obtain ⟨t, h1, h2⟩ := set_fld T (M := M) hS
    obtain ⟨v, hv, hp⟩ := ok.pause
    refine ⟨.rt (As.same H) (.tup (((Txt.split v " ").map D.str).map fun d => match d with
      | .str x => D.int ((PySem.intText? x).getD 0)
      | _ => .non)), ⟨fun _ h => h, ?_⟩, ss_one (s_ret (e_tupleL (n_tuple T) ?_))⟩
    · show _ = D.tup ((pauseL S).map D.int)
      unfold pauseL
      rw [sg_of hv, List.map_map, List.map_map]
      rfl
    · refine e_lcM (own := [("number", 1)]) (g := gName 1) (js := [1]) (f := fOne 1) _ rfl sc_Setting_pause.nd (blkOk_by (N := ["self", "number"]) (sc := defScope s_Setting_pause) (by decide +kernel)) (i_list (e_split (e_dget (hu_of hr) (e_fld (e_var 0) h1) e_str fun H' e => h2 H' e _ _ hv) e_str rfl (Nat.le_trans (Nat.add_le_add_right hp.len 2) (by decide)))) (fun _ _ => trivial)
        (fun _ _ _ _ _ => pg_name (i := 1) sc_Setting_pause.nd rfl (Or.inl rfl)) (tg_name 1) (fun _ h => h) (by rw [List.length_map]; exact Nat.lt_of_le_of_lt hp.few (by decide)) fun M' _ _ d hd => ?_
      obtain ⟨x, hx, rfl⟩ := List.mem_map.mp hd
      obtain ⟨n, h3, h4⟩ := hp.parts x hx
      refine ⟨_, rfl, fun _ _ _ _ _ => e_is (e_intS (n_int T) (e_var 1) h3 h4) ?_⟩
      show D.int n = D.int ((PySem.intText? x).getD 0)
      rw [h3] <;> rfl
end
end RQ
set_option Elab.async false
set_option linter.all false
set_option maxRecDepth 100000
set_option maxHeartbeats 4000000
namespace RQ
open PySem PySem.Spec PyProof.Rows L2 Dx

/-! ### the rows of choice -/
structure Own where
  key : Str
  weight : Int
  origin : Option Str
def oD : Option Str → D
  | none => .non
  | some x => .str x
def ownD (o : Own) : D := .tup [.str o.key, .int o.weight, oD o.origin]
def pairsM : Nat → List Own → List (Int × Int)
  | _, [] => []
  | i, r :: rs => (0 - r.weight, (i : Int)) :: pairsM (i + 1) rs
noncomputable def orderedM (rows : List Own) (order : Str) : List Int := if order = "weight" then (sortP (pairsM 0 rows)).map (·.2) else (List.range rows.length).map fun (i : Nat) => (i : Int)
def isOpenM (w : Str) : Bool := decide (w ∈ [("free" : Str), "busy"])
def barM (closes : Bool) (w : Str) : Bool := isOpenM w || (closes && decide (w = "dead"))
def barredM (S : Cfg) (rows : List Own) (view : List Str) (row : Nat) (key : Str) : Bool := if sg S "order" = "key" then
  (List.zipWith (fun w (r : Own) => barM (decide (sg S "dead" = "closes")) w && decide (r.key = key)) (view.take row) rows).any id else false

section
variable {P : Program} {w : World} {K : PySem.W.Frag} {mg : Str → Option Value} {base : Heap}
/-! ### ordered -/
theorem sc_ordered : FnScope ["rows", "order", "weight", "index", "row"] ["rows", "order"] (defScope s_ordered) := ⟨rfl, rfl, rfl, by decide +kernel, rfl, by decide +kernel, by decide +kernel⟩
def preOrdered : Hp → List D → D → Prop := fun _ ds d => ∃ (rows : List Own) (order : Str), ds = [.lst (rows.map ownD), .str order] ∧ rows.length ≤ 1000 ∧ d = .lst ((orderedM rows order).map D.int)
def fPair : D → D := fun d => match d with
  | .tup [.int i, .tup [_, .int w, _]] => pairI (0 - w, i)
  | _ => .non
theorem pairsM_map : ∀ (i : Nat) (rows : List Own), (enumD i (rows.map ownD)).map fPair = (pairsM i rows).map pairI
  | _, [] => rfl
  | i, r :: rs => congrArg (pairI (0 - r.weight, (i : Int)) :: ·) (pairsM_map (i + 1) rs)
theorem enum_mem : ∀ {i : Nat} {rows : List Own} {d : D}, d ∈ enumD i (rows.map ownD) → ∃ (j : Nat) (r : Own), r ∈ rows ∧ d = .tup [.int (j : Nat), ownD r]
  | _, [], _, h => by cases h
  | i, r :: rs, d, h => by
    rcases List.mem_cons.mp h with e | h
    · exact ⟨i, r, List.mem_cons.mpr (.inl rfl), e⟩
    · obtain ⟨j, r', h1, h2⟩ := enum_mem (i := i + 1) h
      exact ⟨j, r', List.mem_cons.mpr (.inr h1), h2⟩
def fSnd : D → D := fun d => match d with
  | .tup [_, y] => y
  | _ => .non
theorem sortP_perm (xs : List (Int × Int)) : (sortP xs).Perm xs := by
  unfold sortP
  by_cases h : ∃ l, SrtO.Srtd SrtO.lexB l ∧ SrtO.Stb SrtO.lexB l xs
  · rw [dif_pos h]
    exact h.choose_spec.2.perm
  · rw [dif_neg h]
theorem pairsM_len : ∀ (i : Nat) (rows : List Own), (pairsM i rows).length = rows.length
  | _, [] => rfl
  | i, r :: rs => congrArg (· + 1) (pairsM_len (i + 1) rs)
theorem pairsM_mem : ∀ {i : Nat} {rows : List Own} {p : Int × Int}, p ∈ pairsM i rows → ∃ k : Nat, k < rows.length ∧ p.2 = ((i + k : Nat) : Int)
  | _, [], _, h => by cases h
  | i, r :: rs, p, h => by
    rcases List.mem_cons.mp h with e | h
    · subst e
      exact ⟨0, by simp, by simp⟩
    · obtain ⟨k, h1, h2⟩ := pairsM_mem h
      exact ⟨k + 1, by simp; exact h1, by rw [h2]; congr 1; omega⟩
theorem orderedM_mem {rows : List Own} {order : Str} {i : Int} (h : i ∈ orderedM rows order) : ∃ k : Nat, k < rows.length ∧ i = (k : Int) := by
  unfold orderedM at h
  by_cases ho : order = "weight"
  · rw [if_pos ho] at h
    obtain ⟨p, hp, rfl⟩ := List.mem_map.mp h
    obtain ⟨k, h1, h2⟩ := pairsM_mem ((sortP_perm _).mem_iff.mp hp)
    exact ⟨k, h1, by rw [h2, Nat.zero_add]⟩
  · rw [if_neg ho] at h
    obtain ⟨k, hk, rfl⟩ := List.mem_map.mp h
    exact ⟨k, List.mem_range.mp hk, rfl⟩
theorem h_ordered (T : Txt K mg) : Has P w K mg base 1 (atG "ordered" K) ["rows", "order"] (spF K preOrdered) := by
  obtain ⟨fd, F⟩ := f_ordered T
  refine ⟨fd, okF F sc_ordered (fun H ds d h => ?_) (fun H H' ds d _ h => h) fun cdv A outer s H E M ds d hr h => ?_, F.bindsN fun _ _ _ _ _ _ us hl => match us, hl with | [_, _], _ => rfl, F.kp⟩
  · obtain ⟨rows, order, rfl, _⟩ := h
    rfl
  · obtain ⟨rows, order, rfl, hz, rfl⟩ := h
    refine ⟨.rt (As.same H) _, ⟨fun _ h => h, rfl⟩, ?_⟩
    by_cases ho : order = "weight"
    · unfold orderedM
      rw [if_pos ho]
      refine ss_cons (s_ifF (t_is (t_neS (e_var 1) e_str) (by rw [decide_eq_true ho] <;> rfl))) (ss_one (s_ret (e_is (e_lcM (own := [("weight", 2), ("index", 3)]) (items := (sortP (pairsM 0 rows)).map pairI) fSnd rfl sc_ordered.nd (blkOk_by (N := ["rows", "order", "weight", "index", "row"]) (sc := defScope s_ordered) (by decide +kernel)) (i_list (e_sortedP (n_sorted T) (e_is (e_lcM (own := [("index", 3), ("row", 4)]) (items := enumD 0 (rows.map ownD)) fPair rfl sc_ordered.nd (blkOk_by (N := ["rows", "order", "weight", "index", "row"]) (sc := defScope s_ordered) (by decide +kernel)) (i_enum (n_enumerate T) (e_var 0)) (fun _ _ => trivial)
          (fun _ _ _ _ _ => pg_tup rfl (pgs_cons (pg_name (i := 3) sc_ordered.nd rfl (Or.inl rfl)) (pgs_cons (pg_name (i := 4) sc_ordered.nd rfl (Or.inl rfl)) pgs_nil))) (tg_pair 3 4) (by simp) (by rw [enumD_len, List.length_map]; exact Nat.lt_of_le_of_lt hz (by decide)) ?t1) ?e1))) (fun _ _ => trivial)
        (fun _ _ _ _ _ => pg_tup rfl (pgs_cons (pg_name (i := 2) sc_ordered.nd rfl (Or.inl rfl)) (pgs_cons (pg_name (i := 3) sc_ordered.nd rfl (Or.inl rfl)) pgs_nil))) (tg_pair 2 3) (by simp) ?z2 ?t2) ?e2)))
      case t1 =>
        intro M' _ _ d hd
        obtain ⟨j, r, _, rfl⟩ := enum_mem hd
        exact ⟨_, rfl, fun _ _ _ _ _ => e_tup (a_cons (e_sub e_int (e_ixT (e_var 4) e_int (d := .int r.weight) rfl)) (a_cons (e_var 3) a_nil))⟩
      case e1 => rw [pairsM_map]
      case z2 => rw [List.length_map, (sortP_perm _).length_eq, pairsM_len]; exact Nat.lt_of_le_of_lt hz (by decide)
      case t2 =>
        intro M' _ _ d hd
        obtain ⟨p, _, rfl⟩ := List.mem_map.mp hd
        exact ⟨_, rfl, fun _ _ _ _ _ => e_var 3⟩
      case e2 =>
        rw [List.map_map, List.map_map]
        rfl
    · unfold orderedM
      rw [if_neg ho]
      refine ss_stop (s_ifT (t_is (t_neS (e_var 1) e_str) (by rw [decide_eq_false ho] <;> rfl)) (ss_one (s_ret (e_is (e_listRg rfl (n_list T) (n_range T) (e_lenL (n_len T) (e_var 0)) (Int.natCast_nonneg _) (by rw [List.length_map]; omega)) ?_))))
      unfold intsD
      rw [List.length_map, List.map_map]
      rfl
/-! ### is_open -/
theorem sc_is_open : FnScope ["word"] ["word"] (defScope s_is_open) := ⟨rfl, rfl, rfl, by decide +kernel, rfl, by decide +kernel, by decide +kernel⟩
def preOpen : Hp → List D → D → Prop := fun _ ds d => ∃ x, ds = [.str x] ∧ d = .bl (isOpenM x)
theorem e_const {X : Cx} {M : AS} {A : As} {δ : LS} {pos : Pos} {n x : Str} (h : ∃ t, X.mg n = some (.str x t)) (hg : Gl X n := by rfl) (hd : (n == ("__debug__" : Str)) = false := by decide) : PE X (.Name n pos) (tC X.K M A δ A (.str x)) := by
  obtain ⟨t, h⟩ := h
  exact e_glob (v := .str x) h ⟨t, rfl⟩ (fun _ => .str x) hg hd
theorem e_constI {X : Cx} {M : AS} {A : As} {δ : LS} {pos : Pos} {n : Str} {i : Int} (h : ∃ t, X.mg n = some (.int i t)) (hg : Gl X n := by rfl) (hd : (n == ("__debug__" : Str)) = false := by decide) : PE X (.Name n pos) (tC X.K M A δ A (.int i)) := by
  obtain ⟨t, h⟩ := h
  exact e_glob (v := .int i) h ⟨t, rfl⟩ (fun _ => .int i) hg hd
theorem h_is_open (T : Txt K mg) : Has P w K mg base 1 (atG "is_open" K) ["word"] (spF K preOpen) := by
  obtain ⟨fd, F⟩ := f_is_open T
  refine ⟨fd, okF F sc_is_open (fun H ds d h => ?_) (fun H H' ds d _ h => h) fun cdv A outer s H E M ds d hr h => ?_, F.bindsN fun _ _ _ _ _ _ us hl => match us, hl with | [_], _ => rfl, F.kp⟩
  · obtain ⟨x, rfl, _⟩ := h
    rfl
  · obtain ⟨x, rfl, rfl⟩ := h
    exact ⟨.rt (As.same H) _, ⟨fun _ h => h, rfl⟩, ss_one (s_ret (e_cmp op_in_seq (e_var 0) (e_tup (a_cons (e_const (s_FREE T)) (a_cons (e_const (s_BUSY T)) a_nil))) (rd_inT (xs := [("free" : Str), "busy"]))))⟩
/-! ### is_barred -/
theorem zipD_mem : ∀ {ds es : List D} {d : D}, d ∈ zipD ds es → ∃ x ∈ ds, ∃ y ∈ es, d = .tup [x, y]
  | [], _, _, h => by cases h
  | x :: ds, [], _, h => by cases h
  | x :: ds, y :: es, d, h => by
    rcases List.mem_cons.mp h with e | h
    · exact ⟨x, by simp, y, by simp, e⟩
    · obtain ⟨x', h1, y', h2, e⟩ := zipD_mem h
      exact ⟨x', by simp [h1], y', by simp [h2], e⟩
def fBar (c : Bool) : D → D := fun d => match d with
  | .str w => .bl (barM c w)
  | _ => .non
def fBars (key : Str) : D → D := fun d => match d with
  | .tup [.bl b, .tup [.str k, _, _]] => .bl (b && decide (k = key))
  | _ => .non
theorem bars_map (c : Bool) (key : Str) : ∀ (ws : List Str) (rows : List Own), (zipD ((ws.map D.str).map (fBar c)) (rows.map ownD)).map (fBars key) = (List.zipWith (fun w (r : Own) => barM c w && decide (r.key = key)) ws rows).map D.bl
  | [], _ => rfl
  | w :: ws, [] => rfl
  | w :: ws, r :: rows => congrArg (D.bl (barM c w && decide (r.key = key)) :: ·) (bars_map c key ws rows)
theorem cut_len {α : Type} (xs : List α) (lo hi : Option Int) : (Dx.cutD xs lo hi).length ≤ xs.length := by
  unfold Dx.cutD
  rw [List.length_take, List.length_drop]
  omega
theorem cut_take {α : Type} (xs : List α) (n : Nat) (h : n ≤ xs.length) : Dx.cutD xs none (some (n : Int)) = xs.take n := by
  unfold Dx.cutD
  rw [HT.sIx_none, HT.sIx_nat, List.drop_zero, Nat.sub_zero, Nat.min_eq_left h]
def preBarred (K : PySem.W.Frag) : Hp → List D → D → Prop := fun H ds d => ∃ (rows : List Own) (a : Addr) (S : Cfg) (view : List Str) (row : Nat) (o : Own), ds = [.lst (rows.map ownD), .ref a, .lst (view.map D.str), .int (row : Nat)] ∧ SetAt K H a S ∧ SOk S ∧ rows.length ≤ 1000 ∧ view.length = rows.length ∧ rows[row]? = some o ∧
  d = .bl (barredM S rows view row o.key)
theorem preBarred_mono (H H' : Hp) (ds : List D) (d : D) (e : Same H H') (h : preBarred K H ds d) : preBarred K H' ds d := let ⟨r, a, S, v, i, o, h1, h2, h3⟩ := h; ⟨r, a, S, v, i, o, h1, h2.same e, h3⟩
theorem sc_is_barred : FnScope ["rows", "setting", "view", "row", "closes", "barring", "word", "bars", "earlier"] ["rows", "setting", "view", "row"] (defScope s_is_barred) := ⟨rfl, rfl, rfl, by decide +kernel, rfl, by decide +kernel, by decide +kernel⟩
theorem h_is_barred (T : Txt K mg) : Has P w K mg base 3 (atG "is_barred" K) ["rows", "setting", "view", "row"] (spF K (preBarred K)) := by
  obtain ⟨fd, F⟩ := f_is_barred T
  refine ⟨fd, okF F sc_is_barred (fun H ds d h => ?_) preBarred_mono fun cdv A outer s H E M ds d hr h => ?_, F.bindsN fun _ _ _ _ _ _ us hl => match us, hl with | [_, _, _, _], _ => rfl, F.kp⟩
  · obtain ⟨_, _, _, _, _, _, rfl, _⟩ := h
    rfl
  · obtain ⟨rows, a, S, view, row, o, rfl, hS, ok, hz, hv, ho, rfl⟩ := h
    have hin : ∀ H', Same H H' → ∃ dx fs, H' a = some (.ins (atG "Setting" K) dx fs) := fun H' e => let ⟨dx, t, h1, _⟩ := hS; ⟨dx, _, e _ _ h1⟩
    have hlt : row < rows.length := (List.getElem?_eq_some_iff.mp ho).1
    have hcut : Dx.cutD (view.map D.str) none (some ((row : Nat) : Int)) = (view.take row).map D.str := by
      rw [cut_take _ _ (by rw [List.length_map, hv]; exact Nat.le_of_lt hlt), List.map_take]
    refine ⟨.rt (As.same H) _, ⟨fun _ h => h, rfl⟩, ?_⟩
    by_cases hk : sg S "order" = "key"
    · unfold barredM
      rw [if_pos hk]
      refine ss_cons (s_ifF (t_is (t_neS (c_prop (cl_Setting T) (pr_order T) (h_order T) (hr.mono (by decide)) (e_var 1) hin (spF_ok fun H' e => ⟨a, S, rfl, hS.same e, ok, rfl⟩)) e_str) (by rw [decide_eq_true hk] <;> rfl)))
        (ss_cons (s_set 4 sc_is_barred.nd (e_eqS (c_prop (cl_Setting T) (pr_dead T) (h_dead T) (hr.mono (by decide)) (e_var 1) hin (spF_ok fun H' e => ⟨a, S, rfl, hS.same e, ok, rfl⟩)) e_str))
        (ss_cons (s_lcM (i := 5) (own := [("word", 6)]) (g := gName 6) (js := [6]) (f := fOne 6) (fBar (decide (sg S "dead" = "closes"))) rfl sc_is_barred.nd rfl rfl (sw_true rfl rfl rfl (by decide +kernel)) (blkOk_by (N := ["rows", "setting", "view", "row", "closes", "barring", "word", "bars", "earlier"]) (sc := defScope s_is_barred) (by decide +kernel)) (i_list (e_slL (e_var 2) o_none (o_some (e_var 3)))) (fun _ _ => trivial)
            (fun _ _ _ _ _ => pg_name (i := 6) sc_is_barred.nd rfl (Or.inl rfl)) (tg_name 6) (fun _ h => h) ?z1 ?t1)
        (ss_one (s_ret (e_callB (cr_any rfl) (a_one (e_is (e_lcM (own := [("bars", 7), ("earlier", 8)]) (fBars o.key) rfl sc_is_barred.nd (blkOk_by (N := ["rows", "setting", "view", "row", "closes", "barring", "word", "bars", "earlier"]) (sc := defScope s_is_barred) (by decide +kernel)) (i_zip (n_zip T) (e_var 5) (e_var 0)) (fun _ _ => trivial)
            (fun _ _ _ _ _ => pg_tup rfl (pgs_cons (pg_name (i := 7) sc_is_barred.nd rfl (Or.inl rfl)) (pgs_cons (pg_name (i := 8) sc_is_barred.nd rfl (Or.inl rfl)) pgs_nil))) (tg_pair 7 8) (by simp) ?z2 ?t2) ?e2)) rc_any (n_any T))))))
      case z1 =>
        exact Nat.lt_of_le_of_lt (cut_len _ _ _) (by rw [List.length_map, hv]; exact Nat.lt_of_le_of_lt hz (by decide))
      case t1 =>
        intro M' _ _ d hd
        rw [hcut] at hd
        obtain ⟨x, hx, rfl⟩ := List.mem_map.mp hd
        exact ⟨_, rfl, fun _ _ _ _ _ => e_or2 (c_call (h_is_open T) (hr.mono (by decide)) (g_is_open T) (a_one (e_var 6)) (spF_ok fun H' _ => ⟨x, rfl, rfl⟩)) fun _ => e_and2 (e_var 4) fun _ => e_eqS (e_var 6) (e_const (s_DEAD T))⟩
      case z2 =>
        rw [zipD_len]
        refine Nat.lt_of_le_of_lt (Nat.min_le_right _ _) ?_
        rw [List.length_map]
        exact Nat.lt_of_le_of_lt hz (by decide)
      case t2 =>
        intro M' _ _ d hd
        obtain ⟨x, hx, y, hy, rfl⟩ := zipD_mem hd
        rw [hcut] at hx
        obtain ⟨u, hu, rfl⟩ := List.mem_map.mp hx
        obtain ⟨q, hq, rfl⟩ := List.mem_map.mp hu
        obtain ⟨r, hr', rfl⟩ := List.mem_map.mp hy
        exact ⟨_, rfl, fun _ _ _ _ _ => e_and2 (e_var 7) fun _ => e_eqS (e_ixT (e_var 8) e_int rfl) (e_ixT (e_ixL (e_var 0) (e_var 3) (d := ownD o) (atI_nat (by rw [List.getElem?_map, ho] <;> rfl))) e_int rfl)⟩
      case e2 =>
        rw [hcut]
        exact congrArg D.lst (bars_map _ _ _ _)
    · unfold barredM
      rw [if_neg hk]
      exact ss_stop (s_ifT (t_is (t_neS (c_prop (cl_Setting T) (pr_order T) (h_order T) (hr.mono (by decide)) (e_var 1) hin (spF_ok fun H' e => ⟨a, S, rfl, hS.same e, ok, rfl⟩)) e_str) (by rw [decide_eq_false hk] <;> rfl)) (ss_one (s_ret e_bl)))
/-! ### batch -/
def endIf (many : Int) (t : List Str × List Int) : (List Str × List Int) ⊕ (List Str × List Int) := if (t.2.length : Int) = many then .inr t else .inl t
def batchStep (S : Cfg) (rows : List Own) (many : Int) (i : Int) (s : List Str × List Int) : (List Str × List Int) ⊕ (List Str × List Int) :=
  if (decide (s.1.getD i.toNat Str.empty = "free") && !barredM S rows s.1 i.toNat ((rows.map Own.key).getD i.toNat Str.empty)) = true then endIf many (s.1.set i.toNat "busy", s.2 ++ [i])
  else if (isOpenM (s.1.getD i.toNat Str.empty) && !decide (sg S "skip" = "yes")) = true then .inr s
  else endIf many s
noncomputable def batchM (S : Cfg) (rows : List Own) (view : List Str) (many : Int) : List Int := (foldB (batchStep S rows many) (orderedM rows (sg S "order")) (view, [])).2
def two (K : PySem.W.Frag) (A : As) (q r : Addr) (ds es : List D) : As := (A.and (lstA K q ds)).and (lstA K r es)
theorem two_fst {A : As} {q r : Addr} {ds ds' es : List D} (n : q ≠ r) (h : ¬ A.L q) : ∀ (H : Hp) (xs ys : List V), (two K A q r ds es).p H → H q = some (.lst xs) → (lstA K q ds').p (upd H q (.lst ys)) → (two K A q r ds' es).p (upd H q (.lst ys)) :=
  fun H xs ys a e l => ⟨⟨A.stab e h a.1.1, l⟩, (lstA K r es).stab e (fun z => n z) a.2⟩
theorem two_snd {A : As} {q r : Addr} {ds es es' : List D} (n : q ≠ r) (h : ¬ A.L r) : ∀ (H : Hp) (xs ys : List V), (two K A q r ds es).p H → H r = some (.lst xs) → (lstA K r es').p (upd H r (.lst ys)) → (two K A q r ds es').p (upd H r (.lst ys)) :=
  fun H xs ys a e l => ⟨⟨A.stab e h a.1.1, (lstA K q ds).stab e (fun z => n z.symm) a.1.2⟩, l⟩
def preBatch (K : PySem.W.Frag) : Hp → List D → D → Prop := fun H ds d => ∃ (rows : List Own) (a : Addr) (S : Cfg) (view : List Str) (many : Int), ds = [.lst (rows.map ownD), .ref a, .lst (view.map D.str), .int many] ∧ SetAt K H a S ∧ SOk S ∧ rows.length ≤ 1000 ∧ view.length = rows.length ∧
  d = .lst ((batchM S rows view many).map D.int)
theorem preBatch_mono (H H' : Hp) (ds : List D) (d : D) (e : Same H H') (h : preBatch K H ds d) : preBatch K H' ds d := let ⟨r, a, S, v, i, h1, h2, h3⟩ := h; ⟨r, a, S, v, i, h1, h2.same e, h3⟩
theorem sc_batch : FnScope ["rows", "setting", "view", "many", "words", "found", "row"] ["rows", "setting", "view", "many"] (defScope s_batch) := ⟨rfl, rfl, rfl, by decide +kernel, rfl, by decide +kernel, by decide +kernel⟩
theorem ixN_nat {n k : Nat} (h : k < n) : ixN n (k : Int) = some k := by
  unfold L2.ixN
  first | rw [if_pos ⟨by omega, by omega⟩] <;> rfl | (split <;> simp_all <;> omega)
theorem h_batch (T : Txt K mg) : Has P w K mg base 4 (atG "batch" K) ["rows", "setting", "view", "many"] (spF K (preBatch K)) := by
  obtain ⟨fd, F⟩ := f_batch T
  refine ⟨fd, okF F sc_batch (fun H ds d h => ?_) preBatch_mono fun cdv A outer s H E M ds d hr h => ?_, F.bindsN fun _ _ _ _ _ _ us hl => match us, hl with | [_, _, _, _], _ => rfl, F.kp⟩
  · obtain ⟨_, _, _, _, _, rfl, _⟩ := h
    rfl
  · obtain ⟨rows, a, S, view, many, rfl, hS, ok, hz, hv, rfl⟩ := h
    have hin : ∀ H', Same H H' → ∃ dx fs, H' a = some (.ins (atG "Setting" K) dx fs) := fun H' e => let ⟨dx, t, h1, _⟩ := hS; ⟨dx, _, e _ _ h1⟩
    refine ⟨.rt (As.same H) _, ⟨fun _ h => h, rfl⟩, ?_⟩
    refine ss_newPar 4 5 (fun q r => .rt (two K (As.same H) q r ((foldB (batchStep S rows many) (orderedM rows (sg S "order")) (view, [])).1.map D.str) ((batchM S rows view many).map D.int)) (.ref r)) rfl sc_batch.nd rfl rfl (by decide) rfl rfl (n_listL (n_list T) (e_var 2)) (flatL_strs view) (fun q r hqr nq nLq nr nLr => ?_) rfl
    refine ⟨.rt ((As.same H).and (lstA K q ((foldB (batchStep S rows many) (orderedM rows (sg S "order")) (view, [])).1.map D.str))) (.lst ((batchM S rows view many).map D.int)), ?_, .rtL fun _ h => h, .rtD fun _ h => h.1⟩
    have bar : ∀ (words : List Str) (fs : List D) (k : Nat) (o : Own) , words.length = rows.length → rows[k]? = some o → SpOk K ((M.own q).own r) (spF K (preBarred K)) (two K (As.same H) q r (words.map D.str) fs) [.lst (rows.map ownD), .ref a, .ref q, .int (k : Nat)] (two K (As.same H) q r (words.map D.str) fs) (.bl (barredM S rows words k o.key)) := by
      intro words fs k o hw ho H' vs Q b t rr qq
      have l1 : ∀ x, M.x x → ((M.own q).own r).x x := fun x z => .inl (.inl z)
      cases rr with
      | cons r1 rr => cases rr with
        | cons r2 rr => cases rr with
          | cons r3 rr => cases rr with
            | cons r4 rr =>
              cases rr
              refine ⟨M, _, _, fun x z => t x (l1 x z), .cons (r1.less l1 _ _) (.cons (r2.less l1 _ _) (.cons ?_ (.cons (r4.less l1 _ _) .nil))), ⟨rows, a, S, words, k, o, rfl, hS.same b.1.1, ok, hz, hw, ho, rfl⟩, fun v H2 e r5 => qq v H2 (.of_same e) ((two K (As.same H) q r (words.map D.str) fs).mono e b) ?_⟩
              · cases r3
                obtain ⟨f, xs, e1, l⟩ := b.1.2
                exact .lst e1 nq (l.flat (fun _ _ z => z) _ xs f)
              · rw [r5.bl_inv]
                exact .bl _
    refine ss_cons (s_forB (batchStep S rows many) D.int (fun s => two K (As.same H) q r (s.1.map D.str) (s.2.map D.int)) (fun s => [some (.lst (rows.map ownD)), some (.ref a), some (.lst (view.map D.str)), some (.int many), some (.ref q), some (.ref r), none]) (fun s => s.1.length = rows.length ∧ s.2.length + s.1.count ("free" : Str) ≤ rows.length) (g := gName 6) (js := [6]) (tf := fOne 6) (orderedM rows (sg S "order")) (view, []) ?hp rfl
      (i_list (c_call (h_ordered T) (hr.mono (by decide)) (g_ordered T) (a_cons (e_var 0) (a_one (c_prop (cl_Setting T) (pr_order T) (h_order T) (hr.mono (by decide)) (e_var 1) (fun H' b => hin H' b.1.1) (spF_ok fun H' b => ⟨a, S, rfl, hS.same b.1.1, ok, rfl⟩)))) (spF_ok fun H' b => ⟨rows, _, rfl, hz, rfl⟩))) (fun _ _ _ => trivial) rfl ⟨hv, by show 0 + view.count ("free" : Str) ≤ _; rw [Nat.zero_add, ← hv]; exact List.count_le_length⟩ (pg_name (i := 6) sc_batch.nd rfl (Or.inl rfl)) (tg_name 6) fun i hi s hs => ?turn) (ss_one (s_ret (e_var 5)))
    case hp => exact PassesOwn.never
    case turn =>
      obtain ⟨k, hk, rfl⟩ := orderedM_mem hi
      obtain ⟨words, found⟩ := s
      obtain ⟨hs1, hs2⟩ := hs
      have hs1 : words.length = rows.length := hs1
      have hs2 : found.length + words.count ("free" : Str) ≤ rows.length := hs2
      have hkw : k < words.length := by rw [hs1]; exact hk
      obtain ⟨x, hx⟩ : ∃ x, words[k]? = some x := ⟨_, List.getElem?_eq_getElem hkw⟩
      obtain ⟨o, ho⟩ : ∃ o, rows[k]? = some o := ⟨_, List.getElem?_eq_getElem hk⟩
      have e1 : words.getD ((k : Int)).toNat Str.empty = x := by rw [Int.toNat_natCast, List.getD_eq_getElem?_getD, hx] <;> rfl
      have e2 : (rows.map Own.key).getD ((k : Int)).toNat Str.empty = o.key := by rw [Int.toNat_natCast, List.getD_eq_getElem?_getD, List.getElem?_map, ho] <;> rfl
      have hix : atI (words.map D.str) (k : Int) = some (.str x) := atI_nat (by rw [List.getElem?_map, hx] <;> rfl)
      have hlen : found.length < sizeLine := Nat.lt_of_le_of_lt (Nat.le_trans (Nat.le_trans (Nat.le_add_right _ _) hs2) hz) (by decide)
      refine ⟨_, rfl, ?_⟩
      have hqc : ((M.own q).own r).c q := .inl (.inr rfl)
      unfold batchStep
      rw [e1, e2, Int.toNat_natCast]
      by_cases c1 : (decide (x = ("free" : Str)) && !barredM S rows words k o.key) = true
      · rw [if_pos c1]
        have inv : (words.set k "busy").length = rows.length ∧ (found ++ [(k : Int)]).length + (words.set k "busy").count ("free" : Str) ≤ rows.length := by
          have hx1 : words[k] = x := (List.getElem?_eq_some_iff.mp hx).2
          have hxf : x = ("free" : Str) := of_decide_eq_true (Bool.and_eq_true_iff.mp c1).1
          have pos : 0 < words.count ("free" : Str) := List.count_pos_iff.mpr (by rw [← hxf, ← hx1]; exact List.getElem_mem _)
          refine ⟨by rw [List.length_set]; exact hs1, ?_⟩
          rw [List.length_append, List.length_singleton, List.count_set hkw, hx1, hxf, if_pos (by decide), if_neg (by decide)]
          omega
        have em : (found ++ [(k : Int)]).map D.int = found.map D.int ++ [D.int (k : Int)] := by rw [List.map_append] <;> rfl
        have ew : (words.set k ("busy" : Str)).map D.str = (words.map D.str).set k (D.str "busy") := by rw [List.map_set]
        unfold endIf
        by_cases c3 : (((found ++ [(k : Int)]).length : Nat) : Int) = many
        · rw [if_pos c3]
          show PSs _ _ (tO K ((M.own q).own r) (two K (As.same H) q r (words.map D.str) (found.map D.int)) _ (.bk (two K (As.same H) q r ((words.set k ("busy" : Str)).map D.str) ((found ++ [(k : Int)]).map D.int)) _))
          rw [em, ew]
          refine ss_forgetB 6 (ss_cons (s_ifT (t_is (t_and (t_eqS (e_oix (e_var 4) (e_var 6) (fun _ b => b.1.2) hix) (e_const (s_FREE T))) (fun _ => t_not (t_val (c_call (h_is_barred T) (hr.mono (by decide)) (g_is_barred T) (a_cons (e_var 0) (a_cons (e_var 1) (a_cons (e_var 4) (a_one (e_var 6))))) (bar words _ k o hs1 ho))))) c1)
            (ss_cons (s_oapp (e_var 5) (e_var 6) (.inr rfl) (fun _ b => b.2) (fun _ b => b.2) rfl (by rw [List.length_map]; exact hlen) (two_snd hqr nLr))
              (ss_one (s_oset (e_const (s_BUSY T)) (e_var 4) (e_var 6) hqc (fun _ b => b.1.2) rfl (ixN_nat (by rw [List.length_map]; exact hkw)) (two_fst hqr nLq)))))
            (ss_one (s_ifT (t_is (t_eqI (e_olen (n_len T) (e_var 5) (fun _ b => b.2)) (e_var 3)) (decide_eq_true (by rw [← em, List.length_map]; exact c3))) (ss_one s_break))))
        · rw [if_neg c3]
          refine ⟨inv, ?_⟩
          show PSs _ _ (tO K ((M.own q).own r) (two K (As.same H) q r (words.map D.str) (found.map D.int)) _ (.nx (two K (As.same H) q r ((words.set k ("busy" : Str)).map D.str) ((found ++ [(k : Int)]).map D.int)) _))
          rw [em, ew]
          refine ss_forget 6 (ss_cons (s_ifT (t_is (t_and (t_eqS (e_oix (e_var 4) (e_var 6) (fun _ b => b.1.2) hix) (e_const (s_FREE T))) (fun _ => t_not (t_val (c_call (h_is_barred T) (hr.mono (by decide)) (g_is_barred T) (a_cons (e_var 0) (a_cons (e_var 1) (a_cons (e_var 4) (a_one (e_var 6))))) (bar words _ k o hs1 ho))))) c1)
            (ss_cons (s_oapp (e_var 5) (e_var 6) (.inr rfl) (fun _ b => b.2) (fun _ b => b.2) rfl (by rw [List.length_map]; exact hlen) (two_snd hqr nLr))
              (ss_one (s_oset (e_const (s_BUSY T)) (e_var 4) (e_var 6) hqc (fun _ b => b.1.2) rfl (ixN_nat (by rw [List.length_map]; exact hkw)) (two_fst hqr nLq)))))
            (ss_one (s_ifF (t_is (t_eqI (e_olen (n_len T) (e_var 5) (fun _ b => b.2)) (e_var 3)) (decide_eq_false (by rw [← em, List.length_map]; exact c3))))))
      · rw [if_neg c1]
        have c1' : (decide (x = ("free" : Str)) && !barredM S rows words k o.key) = false := Bool.eq_false_iff.mpr c1
        by_cases c2 : (isOpenM x && !decide (sg S "skip" = "yes")) = true
        · rw [if_pos c2]
          refine ss_forgetB 6 (ss_brk (s_if (t_is (t_and (t_eqS (e_oix (e_var 4) (e_var 6) (fun _ b => b.1.2) hix) (e_const (s_FREE T))) (fun _ => t_not (t_val (c_call (h_is_barred T) (hr.mono (by decide)) (g_is_barred T) (a_cons (e_var 0) (a_cons (e_var 1) (a_cons (e_var 4) (a_one (e_var 6))))) (bar words _ k o hs1 ho))))) c1') (fun h => by cases h) fun _ =>
            ss_one (s_ifT (t_is (t_and (t_val (c_call (h_is_open T) (hr.mono (by decide)) (g_is_open T) (a_one (e_oix (e_var 4) (e_var 6) (fun _ b => b.1.2) hix)) (spF_ok fun H' _ => ⟨x, rfl, rfl⟩))) (fun _ => t_not (t_val (c_prop (cl_Setting T) (pr_skip T) (h_skip T) (hr.mono (by decide)) (e_var 1) (fun H' b => hin H' b.1.1) (spF_ok fun H' b => ⟨a, S, rfl, hS.same b.1.1, ok, rfl⟩))))) c2) (ss_one s_break))))
        · rw [if_neg c2]
          have c2' : (isOpenM x && !decide (sg S "skip" = "yes")) = false := Bool.eq_false_iff.mpr c2
          unfold endIf
          by_cases c3 : ((found.length : Nat) : Int) = many
          · rw [if_pos c3]
            refine ss_forgetB 6 (ss_cons (s_if (t_is (t_and (t_eqS (e_oix (e_var 4) (e_var 6) (fun _ b => b.1.2) hix) (e_const (s_FREE T))) (fun _ => t_not (t_val (c_call (h_is_barred T) (hr.mono (by decide)) (g_is_barred T) (a_cons (e_var 0) (a_cons (e_var 1) (a_cons (e_var 4) (a_one (e_var 6))))) (bar words _ k o hs1 ho))))) c1') (fun h => by cases h) fun _ =>
              ss_one (s_ifF (t_is (t_and (t_val (c_call (h_is_open T) (hr.mono (by decide)) (g_is_open T) (a_one (e_oix (e_var 4) (e_var 6) (fun _ b => b.1.2) hix)) (spF_ok fun H' _ => ⟨x, rfl, rfl⟩))) (fun _ => t_not (t_val (c_prop (cl_Setting T) (pr_skip T) (h_skip T) (hr.mono (by decide)) (e_var 1) (fun H' b => hin H' b.1.1) (spF_ok fun H' b => ⟨a, S, rfl, hS.same b.1.1, ok, rfl⟩))))) c2')))
              (ss_one (s_ifT (t_is (t_eqI (e_olen (n_len T) (e_var 5) (fun _ b => b.2)) (e_var 3)) (decide_eq_true (by rw [List.length_map]; exact c3))) (ss_one s_break))))
          · rw [if_neg c3]
            refine ⟨⟨hs1, hs2⟩, ss_forget 6 (ss_cons (s_if (t_is (t_and (t_eqS (e_oix (e_var 4) (e_var 6) (fun _ b => b.1.2) hix) (e_const (s_FREE T))) (fun _ => t_not (t_val (c_call (h_is_barred T) (hr.mono (by decide)) (g_is_barred T) (a_cons (e_var 0) (a_cons (e_var 1) (a_cons (e_var 4) (a_one (e_var 6))))) (bar words _ k o hs1 ho))))) c1') (fun h => by cases h) fun _ =>
              ss_one (s_ifF (t_is (t_and (t_val (c_call (h_is_open T) (hr.mono (by decide)) (g_is_open T) (a_one (e_oix (e_var 4) (e_var 6) (fun _ b => b.1.2) hix)) (spF_ok fun H' _ => ⟨x, rfl, rfl⟩))) (fun _ => t_not (t_val (c_prop (cl_Setting T) (pr_skip T) (h_skip T) (hr.mono (by decide)) (e_var 1) (fun H' b => hin H' b.1.1) (spF_ok fun H' b => ⟨a, S, rfl, hS.same b.1.1, ok, rfl⟩))))) c2')))
              (ss_one (s_ifF (t_is (t_eqI (e_olen (n_len T) (e_var 5) (fun _ b => b.2)) (e_var 3)) (decide_eq_false (by rw [List.length_map]; exact c3))))))⟩
end
end RQ
set_option Elab.async false
set_option linter.all false
set_option maxRecDepth 100000
set_option maxHeartbeats 4000000
namespace Dx
open PySem PySem.Spec PyProof.Rows L2
/-! ### list(d.values()) -/
def tListVals (td : TE) : TE := fun σ H Q => td σ H fun x H1 => ∃ d kvs, x = .ref d ∧ H1 d = some (.dK kvs) ∧ ∀ q, H1 q = none → Q (.ref q) (upd H1 q (.lst (kvs.map fun kv => kv.2)))
theorem pe_listVals {X : Cx} {e : Expr} {td : TE} {p apos cpos pos : Pos} (hc : X.calm = true) (hg : Gl X "list") (hm : X.mg "list" = none) (he : PE X e td) (hbase : attributeBase e "values" X.env (eval e X.env) = eval e X.env := by rfl) (hline : (apos.endLine == cpos.line) = true := by rfl)
    (na : starEach [.Call (.Attribute e "values" apos) [] [] cpos] X.env = (false, eval (.Call (.Attribute e "values" apos) [] [] cpos) X.env) :: starEach [] X.env := by rfl) :
    PE X (.Call (.Name "list" p) [.Call (.Attribute e "values" apos) [] [] cpos] [] pos) (tListVals td) := by
  refine ⟨fun pins s σ H Q I h => ?_⟩
  have key : wpAny (model X.prog X.w) X.A (eval (.Call (.Attribute e "values" apos) [] [] cpos) X.env) (fun v s2 => ∃ (d : Addr) (kvs : List (Key × V)) (H1 : Hp) (r : Addr), v = .ref r ∧ Inv X pins σ H1 s2 ∧ s2.heap.IsValuesView r d ∧ H1 d = some (.dK kvs) ∧ ∀ q, H1 q = none → Q (.ref q) (upd H1 q (.lst (kvs.map fun kv => kv.2)))) X.xe s := by
    refine wpAny_Call_method (T := "dict") (id := "dict.values") hbase rfl hline F.plainAttrs_dict F.slot_dict_values F.type_dict_values (thn (he.run pins s σ H _ I h) fun u s1 ⟨x, H1, I1, rx, d, kvs, ex, hd, q⟩ => ?_)
    subst ex
    obtain rfl : u = Value.ref d := rx
    obtain ⟨z, hs, vs, rk, hdd⟩ := (show ObjOk X.prog X.w H1 s1.heap d (.dK kvs) from I1.hok d _ hd)
    obtain ⟨ep, hm⟩ := hdd.dictAt
    refine ⟨hm.dictOf.typeIs, hm.dictOf.mapOf.noDict, ?_⟩
    have I2 : Inv X pins σ H1 { s1 with heap := s1.heap.push { cls := .type "dict_values", data := .fields #[.ref d] } } := I1.kept (t' := s1.toks) fun b ob q => Heap.get?_push_of_some _ q
    show wpAny _ _ (callWith cpos (.builtin "dict.values") [.ref d] [] []) _ X.xe s1
    exact method_meetsIn F.slot_dict_values F.entry_dict_values rfl (PySem.evalArgs_none ⟨rfl, hm.dictOf.typeIs, F.args_dict_values_1 _, _, meets_dict_values (mixKind X.prog X.w) d hs, ⟨vs, hm.dictOf⟩, ⟨d, kvs, H1, s1.heap.objs.size, rfl, I2, ⟨_, Heap.get?_push_size _ rfl, rfl, rfl⟩, hd, q⟩⟩)
  refine Call_ (ld_blt I hg hm boot_list (PyProof.Rows.callWith_type1 (T := "list") (args_cons (thn key fun v s2 ⟨d, kvs, H1, r, ev, I2, hv, hd, q⟩ => args_nil ?_) na) na))
  subst ev
  obtain ⟨z, hs, vs, rk, hdd⟩ := (show ObjOk X.prog X.w H1 s2.heap d (.dK kvs) from I2.hok d _ hd)
  obtain ⟨ep, hat⟩ := hdd.dictAt
  have hl : kvs.length = vs.length := Paired.length rk
  refine PySem.W.kdl_call (PySem.W.kdl_values (knd := mixKind X.prog X.w) (kvs := vs) (ep := ep)) (I2.ok.hd hc) ⟨hv, hat⟩ (by rw [← hl]; exact z) fun h' tk acc' c' hkeep hS hacc => ?_
  refine ⟨.ref s2.heap.objs.size, upd H1 s2.heap.objs.size (.lst (kvs.map fun kv => kv.2)), I2.laid hkeep (Nat.le_refl _) (show ObjOk X.prog X.w _ _ _ (.lst (kvs.map fun kv => kv.2)) from ⟨?_, acc'.toList, c', ?_, ?_⟩), rfl, q _ (I2.hok.fresh (Nat.le_refl _))⟩
  · rw [List.length_map]; exact z
  · have el : acc'.toList.length = acc'.size := by simp
    refine vals_of_at (by rw [List.length_map, el, hacc.1, hl]) fun j x w h1 h2 => ?_
    obtain ⟨k, hk⟩ := hacc.2 j w (by rw [← Array.getElem?_toList]; exact h2)
    rw [List.getElem?_map] at h1
    cases ek : kvs[j]? with
    | none =>
      rw [ek] at h1
      cases h1
    | some kv =>
      rw [ek] at h1
      cases h1
      obtain ⟨u, eu, ru⟩ := kv_get rk (i := j) (k := kv.1) (v := kv.2) (by rw [ek])
      rw [hk] at eu
      cases eu
      exact ru
  · rw [Array.toArray_toList]; exact hS

/-! ### tables: dicts with text keys and flat data -/
inductive KvR (K : PySem.W.Frag) (H : Hp) : List (Key × V) → List (Str × D) → Prop
  | nil : KvR K H [] []
  | cons {k : Str} {v : V} {d : D} {kvs : List (Key × V)} {es : List (Str × D)} : Rp K AS.no H v d → flatD d = true → KvR K H kvs es → KvR K H ((Sum.inr k, v) :: kvs) ((k, d) :: es)
section
variable {K : PySem.W.Frag} {M : AS} {H H' : Hp}
theorem KvR.fr (t : ∀ a xs, H a = some (.tup xs) → H' a = some (.tup xs)) : ∀ {kvs : List (Key × V)} {es : List (Str × D)}, KvR K H kvs es → KvR K H' kvs es
  | _, _, .nil => .nil
  | _, _, .cons r f h => .cons (r.flat t _ _ f) f (h.fr t)
theorem KvR.len : ∀ {kvs : List (Key × V)} {es : List (Str × D)}, KvR K H kvs es → kvs.length = es.length
  | _, _, .nil => rfl
  | _, _, .cons _ _ h => congrArg (· + 1) h.len
theorem KvR.keys : ∀ {kvs : List (Key × V)} {es : List (Str × D)}, KvR K H kvs es → kvs.map (fun kv => kV kv.1) = (es.map (·.1)).map V.str
  | _, _, .nil => rfl
  | _, _, .cons _ _ h => by
    rw [List.map_cons, List.map_cons, List.map_cons, h.keys] <;> rfl
theorem KvR.vals : ∀ {kvs : List (Key × V)} {es : List (Str × D)}, KvR K H kvs es → RpL K M H (kvs.map fun kv => kv.2) (es.map (·.2))
  | _, _, .nil => .nil
  | _, _, .cons r f h => .cons (r.flat (fun _ _ z => z) _ _ f) h.vals
theorem KvR.getN {k : Str} : ∀ {kvs : List (Key × V)} {es : List (Str × D)}, KvR K H kvs es → es.lookup k = none → valV kvs (Sum.inr k) = none
  | _, _, .nil, _ => rfl
  | _, _, .cons (k := k0) r f h, e => by
    rw [List.lookup_cons] at e
    cases eb : k == k0 with
    | true =>
      rw [eb] at e
      cases e
    | false =>
      rw [eb] at e
      rw [valV_neg (fun q => by
        have := Sum.inr.inj q
        exact absurd this.symm (beq_eq_false_iff_ne.mp eb))]
      exact h.getN e
theorem KvR.get {k : Str} {d : D} : ∀ {kvs : List (Key × V)} {es : List (Str × D)}, KvR K H kvs es → es.lookup k = some d → ∃ v, valV kvs (Sum.inr k) = some v ∧ Rp K M H v d ∧ flatD d = true
  | _, _, .nil, e => by simp at e
  | _, _, .cons (k := k0) r f h, e => by
    rw [List.lookup_cons] at e
    cases eb : k == k0 with
    | true =>
      rw [eb] at e
      cases e
      have : k = k0 := beq_iff_eq.mp eb
      subst this
      exact ⟨_, valV_pos rfl, r.flat (fun _ _ z => z) _ _ f, f⟩
    | false =>
      rw [eb] at e
      rw [valV_neg (fun q => by
        have := Sum.inr.inj q
        exact absurd this.symm (beq_eq_false_iff_ne.mp eb))]
      exact h.get e
theorem KvR.isS {k : Str} {kvs : List (Key × V)} {es : List (Str × D)} (h : KvR K H kvs es) : (valV kvs (Sum.inr k)).isSome = (es.lookup k).isSome := by
  cases e : es.lookup k with
  | none => rw [h.getN e] <;> rfl
  | some d =>
    obtain ⟨v, e1, _⟩ := h.get (M := AS.no) e
    rw [e1] <;> rfl
end
def putT (es : List (Str × D)) (k : Str) (d : D) : List (Str × D) := if (es.lookup k).isSome = true then es.map (fun e => if e.1 = k then (e.1, d) else e) else es ++ [(k, d)]
section
variable {K : PySem.W.Frag} {M : AS} {H H' : Hp}
theorem KvR.setAll {k : Str} {v : V} {d : D} (r : Rp K AS.no H v d) (f : flatD d = true) : ∀ {kvs : List (Key × V)} {es : List (Str × D)}, KvR K H kvs es → KvR K H (kvs.map fun kv => if kv.1 = Sum.inr k then (kv.1, v) else kv) (es.map fun e => if e.1 = k then (e.1, d) else e)
  | _, _, .nil => .nil
  | _, _, .cons (k := k0) r0 f0 h => by
    rw [List.map_cons, List.map_cons]
    by_cases e : k0 = k
    · subst e
      rw [if_pos rfl, if_pos rfl]
      exact .cons r f (h.setAll r f)
    · rw [if_neg (fun q => e (Sum.inr.inj q)), if_neg e]
      exact .cons r0 f0 (h.setAll r f)
theorem KvR.snoc {k : Str} {v : V} {d : D} (r : Rp K AS.no H v d) (f : flatD d = true) : ∀ {kvs : List (Key × V)} {es : List (Str × D)}, KvR K H kvs es → KvR K H (kvs ++ [(Sum.inr k, v)]) (es ++ [(k, d)])
  | _, _, .nil => .cons r f .nil
  | _, _, .cons r0 f0 h => .cons r0 f0 (h.snoc r f)
theorem KvR.put {k : Str} {v : V} {d : D} (r : Rp K AS.no H v d) (f : flatD d = true) {kvs : List (Key × V)} {es : List (Str × D)} (h : KvR K H kvs es) : KvR K H (putK kvs (Sum.inr k) v) (putT es k d) := by
  unfold putK putT
  rw [valV_any, h.isS]
  by_cases e : (es.lookup k).isSome = true
  · rw [if_pos e, if_pos e]
    exact h.setAll r f
  · rw [if_neg e, if_neg e]
    exact h.snoc r f
end
/-- at t a dict of the data es stands -/
def tabA (K : PySem.W.Frag) (t : Addr) (es : List (Str × D)) : As where
  p := fun H => ∃ kvs, H t = some (.dK kvs) ∧ KvR K H kvs es
  L := fun a => a = t
  fr := fun f ⟨kvs, h, r⟩ => ⟨kvs, f.keep _ _ rfl h, r.fr f.tup⟩
  trk := fun {H a} ⟨kvs, h, r⟩ l => by
    rw [l, h]
    exact fun z => by cases z
/-! ### objects whose fields hold flat data -/
inductive FvR (K : PySem.W.Frag) (H : Hp) : List (Str × V) → List (Str × D) → Prop
  | nil : FvR K H [] []
  | cons {k : Str} {v : V} {d : D} {fs : List (Str × V)} {es : List (Str × D)} : Rp K AS.no H v d → flatD d = true → FvR K H fs es → FvR K H ((k, v) :: fs) ((k, d) :: es)
def putFD (f : Str) (v : D) : List (Str × D) → List (Str × D)
  | [] => [(f, v)]
  | (g, x) :: r => if g = f then (g, v) :: r else (g, x) :: putFD f v r
section
variable {K : PySem.W.Frag} {M : AS} {H H' : Hp}
theorem FvR.fr (t : ∀ a xs, H a = some (.tup xs) → H' a = some (.tup xs)) : ∀ {fs : List (Str × V)} {es : List (Str × D)}, FvR K H fs es → FvR K H' fs es
  | _, _, .nil => .nil
  | _, _, .cons r f h => .cons (r.flat t _ _ f) f (h.fr t)
theorem FvR.len : ∀ {kvs : List (Str × V)} {es : List (Str × D)}, FvR K H kvs es → kvs.length = es.length
  | _, _, .nil => rfl
  | _, _, .cons _ _ h => congrArg (· + 1) h.len
theorem FvR.get {k : Str} {d : D} : ∀ {kvs : List (Str × V)} {es : List (Str × D)}, FvR K H kvs es → es.lookup k = some d → ∃ v, kvs.lookup k = some v ∧ Rp K M H v d ∧ flatD d = true
  | _, _, .nil, e => by simp at e
  | _, _, .cons (k := k0) r f h, e => by
    rw [List.lookup_cons] at e ⊢
    cases eb : k == k0 with
    | true =>
      rw [eb] at e
      cases e
      exact ⟨_, rfl, r.flat (fun _ _ z => z) _ _ f, f⟩
    | false =>
      rw [eb] at e
      exact h.get e
theorem FvR.getN {k : Str} : ∀ {kvs : List (Str × V)} {es : List (Str × D)}, FvR K H kvs es → es.lookup k = none → kvs.lookup k = none
  | _, _, .nil, _ => rfl
  | _, _, .cons (k := k0) r f h, e => by
    rw [List.lookup_cons] at e ⊢
    cases eb : k == k0 with
    | true =>
      rw [eb] at e
      cases e
    | false =>
      rw [eb] at e
      exact h.getN e
theorem FvR.put {k : Str} {v : V} {d : D} (r : Rp K AS.no H v d) (f : flatD d = true) : ∀ {kvs : List (Str × V)} {es : List (Str × D)}, FvR K H kvs es → FvR K H (putF k v kvs) (putFD k d es)
  | _, _, .nil => .cons r f .nil
  | _, _, .cons (k := k0) r0 f0 h => by
    unfold putF putFD
    by_cases e : k0 = k
    · rw [if_pos e, if_pos e]
      exact .cons r f h
    · rw [if_neg e, if_neg e]
      exact .cons r0 f0 (h.put r f)
end
/-- at q an object of the class C with the fields es stands -/
def insA (K : PySem.W.Frag) (q C : Addr) (es : List (Str × D)) : As where
  p := fun H => ∃ dx fs, H q = some (.ins C dx fs) ∧ FvR K H fs es
  L := fun a => a = q
  fr := fun f ⟨dx, fs, h, r⟩ => ⟨dx, fs, f.keep _ _ rfl h, r.fr f.tup⟩
  trk := fun {H a} ⟨_, _, h, r⟩ l => by
    rw [l, h]
    exact fun z => by cases z
section
variable {X : Cx} {M : AS} {A B C G : As} {δ δ' : LS} {pos p p2 apos cpos : Pos} {x y z d : D} {a b e o tg iter : Expr} {items : List D}
/-- e.f -/
theorem e_getF {q Cl : Addr} {n : Str} {es : List (Str × D)} (cl : Cls X.K Cl) (na : NoAttr X.K Cl n) (ho : PE X e (tC X.K M A δ B (.ref q))) (hi : ∀ H, B.p H → (insA X.K q Cl es).p H) (hd : es.lookup n = some d) (hab : attributeBase e n X.env (eval e X.env) = eval e X.env := by rfl) : PE X (.Attribute e n pos) (tC X.K M A δ B d) :=
  e_fld ho (fun H b => by
    obtain ⟨dx, fs, h1, h2⟩ := hi H b
    obtain ⟨v, h3, h4, _⟩ := h2.get hd
    exact ⟨Cl, dx, fs, v, h1, cl, na, h3, h4⟩) hab
/-- o.f = e -/
theorem s_putF {q Cl : Addr} {n : Str} {es : List (Str × D)} {pos' : Pos} (cl : Cls X.K Cl) (na : NoAttr X.K Cl n) (he : PE X e (tC X.K M A δ B d)) (ho : PE X o (tC X.K M B δ C (.ref q))) (hi : ∀ H, C.p H → (insA X.K q Cl es).p H) (hf : flatD d = true) (hl : es.length < 1000) {Es : As}
    (hE : ∀ H u, C.p H → (insA X.K q Cl (putFD n d es)).p (upd H q u) → Fr (fun a => a ≠ q) H (upd H q u) → Es.p (upd H q u)) (hs : swapsWith e (some (.Attribute o n pos')) pos.line X.env = pure false := by rfl) : PS X (.Assign [.Attribute o n pos'] e pos) (tO X.K M A δ (.nx Es δ)) :=
  ps_imp (ps_fld ho he hs) fun E σ H ⟨s, h⟩ => ⟨s, fun v H1 k1 b1 r1 => ⟨s.kp k1 b1, fun w H2 k2 c2 r2 => by
    cases r2
    obtain ⟨dx, fs, h1, h2⟩ := hi H2 c2
    have rv := (r1.kp k2 d v)
    have fr : ∀ u, Fr (fun a => a ≠ q) H2 (upd H2 q u) := fun u => .upd h1 (fun _ z => by cases z) fun z => z rfl
    have kp : Kp M H2 (upd H2 q (.ins Cl dx (putF n v fs))) := .upd h1 (fun _ z => by cases z) (.inr fun _ z => by cases z)
    refine ⟨q, Cl, dx, fs, rfl, h1, cl, na, by rw [h2.len]; exact hl, ?_⟩
    refine h σ _ ((k1.trans k2).trans kp) (hE H2 _ c2 ⟨dx, _, upd_same, ?_⟩ (fr _)) ((s.s.kp (k1.trans k2)).kp kp)
    exact (h2.fr (fr _).tup).put (rv.flat (fr _).tup d v hf) hf⟩⟩
/-- t[k], k in t, len(t), list(t), list(t.values()) -/
theorem e_tget {q : Addr} {n : Str} {es : List (Str × D)} (hu : X.A.units + 1 < cLine) (ho : PE X o (tC X.K M A δ B (.ref q))) (hk : PE X e (tC X.K M B δ C (.str n))) (hl : ∀ H, C.p H → (tabA X.K q es).p H) (hd : es.lookup n = some d) (hs : NoSl e := by exact fun _ _ => rfl) : PE X (.Subscript o e pos) (tC X.K M A δ C d) :=
  e_dget hu ho hk (fun H c => by
    obtain ⟨kvs, h1, h2⟩ := hl H c
    obtain ⟨v, h3, h4, _⟩ := h2.get hd
    exact ⟨kvs, v, h1, h3, h4⟩) hs
theorem t_tin {q : Addr} {n : Str} {es : List (Str × D)} (hu : X.A.units + 1 < cLine) (hk : PE X e (tC X.K M A δ B (.str n))) (ho : PE X o (tC X.K M B δ C (.ref q))) (hl : ∀ H, C.p H → (tabA X.K q es).p H) (h1 : behindInMarks .In o = false := by rfl) : PT X (.Compare e [.In] [o] pos) (tCT X.K M A δ C (es.lookup n).isSome) :=
  t_inD hu hk ho (fun H c => let ⟨kvs, h1, h2⟩ := hl H c; ⟨kvs, h1, h2.isS⟩) h1
theorem t_tnotin {q : Addr} {n : Str} {es : List (Str × D)} (hu : X.A.units + 1 < cLine) (hk : PE X e (tC X.K M A δ B (.str n))) (ho : PE X o (tC X.K M B δ C (.ref q))) (hl : ∀ H, C.p H → (tabA X.K q es).p H) (h1 : behindInMarks .NotIn o = false := by rfl) : PT X (.Compare e [.NotIn] [o] pos) (tCT X.K M A δ C (!(es.lookup n).isSome)) :=
  t_notInD hu hk ho (fun H c => let ⟨kvs, h1, h2⟩ := hl H c; ⟨kvs, h1, h2.isS⟩) h1
theorem e_tlen {q : Addr} {es : List (Str × D)} (hm : X.mg "len" = none) (h : PE X e (tC X.K M A δ B (.ref q))) (hl : ∀ H, B.p H → (tabA X.K q es).p H) (hg : Gl X "len" := by rfl) (hs : starEach (e :: []) X.env = (false, eval e X.env) :: starEach [] X.env := by rfl) (hpl : (backTo pos (starEach [] X.env)).any (·.1) = false := by rfl) : PE X (.Call (.Name "len" p) [e] [] pos) (tC X.K M A δ B (.int es.length)) :=
  e_callB call_lenD (a_one h hs) (fun H vs c t r Q q => by
    cases r with
    | cons r1 r2 =>
      cases r2
      cases r1
      obtain ⟨kvs, h1, h2⟩ := hl H c
      refine ⟨_, kvs, rfl, h1, ?_⟩
      rw [h2.len]
      exact q _ H (Same.refl H) (.int _)) hm PySem.boot_len hg (by decide) (by decide) hs hpl
theorem e_tkeys {q : Addr} {es : List (Str × D)} (hc : X.calm = true) (hm : X.mg "list" = none) (h : PE X e (tC X.K M A δ B (.ref q))) (hl : ∀ H, B.p H → (tabA X.K q es).p H) (hg : Gl X "list" := by rfl) (hs : starEach (e :: []) X.env = (false, eval e X.env) :: starEach [] X.env := by rfl) (hpl : (backTo pos (starEach [] X.env)).any (·.1) = false := by rfl) :
    PE X (.Call (.Name "list" p) [e] [] pos) (tC X.K M A δ B (.lst ((es.map (·.1)).map D.str))) :=
  e_callTy (call_list_dK hc) (a_one h hs) (fun H vs c t r Q q => by
    cases r with
    | cons r1 r2 =>
      cases r2
      cases r1
      obtain ⟨kvs, h1, h2⟩ := hl H c
      refine ⟨_, kvs, rfl, h1, fun l hl => q _ _ (Same.new hl) (.lst upd_same (tr_new t hl) ?_)⟩
      rw [h2.keys]
      exact RpL.strs _) hm (by decide +kernel) hg (by decide) (by decide) hs hpl
theorem e_tvals {q : Addr} {es : List (Str × D)} (hc : X.calm = true) (hm : X.mg "list" = none) (h : PE X e (tC X.K M A δ B (.ref q))) (hl : ∀ H, B.p H → (tabA X.K q es).p H) (hg : Gl X "list" := by rfl) (hbase : attributeBase e "values" X.env (eval e X.env) = eval e X.env := by rfl) (hline : (apos.endLine == cpos.line) = true := by rfl)
    (na : starEach [.Call (.Attribute e "values" apos) [] [] cpos] X.env = (false, eval (.Call (.Attribute e "values" apos) [] [] cpos) X.env) :: starEach [] X.env := by rfl) :
    PE X (.Call (.Name "list" p) [.Call (.Attribute e "values" apos) [] [] cpos] [] pos) (tC X.K M A δ B (.lst (es.map (·.2)))) :=
  pe_imp (pe_listVals hc hg hm h hbase hline na) fun σ H Q ⟨s, q⟩ => ⟨s, fun v H1 k1 b1 r1 => by
    cases r1
    obtain ⟨kvs, h1, h2⟩ := hl H1 b1
    exact ⟨_, kvs, rfl, h1, fun l hl => q _ _ (k1.trans (.new hl)) (B.mono (Same.new hl) b1) (.lst upd_same (tr_new (tr_kp s.tr k1) hl) (Same.newK hl h2.vals))⟩⟩
/-- t[k] = e -/
theorem s_tput {q : Addr} {n : Str} {es : List (Str × D)} {pos' : Pos} (hu : X.A.units + 1 < cLine) (he : PE X e (tC X.K M A δ B d)) (ho : PE X o (tC X.K M B δ C (.ref q))) (hk : PE X a (tC X.K M C δ G (.str n))) (hl : ∀ H, G.p H → (tabA X.K q es).p H) (hf : flatD d = true) (hz : es.length < sizeLine) {Es : As}
    (hE : ∀ H u, G.p H → (tabA X.K q (putT es n d)).p (upd H q u) → Fr (fun a => a ≠ q) H (upd H q u) → Es.p (upd H q u)) (hs : swapsWith e (some (.Subscript o a pos')) pos.line X.env = pure false := by rfl) : PS X (.Assign [.Subscript o a pos'] e pos) (tO X.K M A δ (.nx Es δ)) :=
  ps_imp (ps_dput hu ho hk he hs) fun E σ H ⟨s, h⟩ => ⟨s, fun v H1 k1 b1 r1 => ⟨s.kp k1 b1, fun w H2 k2 c2 r2 => ⟨(s.kp k1 b1).kp k2 c2, fun y H3 k3 g3 r3 => by
    cases r2
    cases r3
    obtain ⟨kvs, h1, h2⟩ := hl H3 g3
    have rv := ((r1.kp k2 d v).kp k3 d v)
    have k13 := (k1.trans k2).trans k3
    have fr : ∀ u, Fr (fun a => a ≠ q) H3 (upd H3 q u) := fun u => .upd h1 (fun _ z => by cases z) fun z => z rfl
    have kp : ∀ u, Kp M H3 (upd H3 q u) := fun u => .upd h1 (fun _ z => by cases z) (.inr fun _ z => by cases z)
    refine ⟨q, _, rfl, DPut.k (k := Sum.inr n) h1 (by rw [h2.len]; exact hz), h σ _ (k13.trans (kp _)) (hE H3 _ g3 ⟨_, upd_same, ?_⟩ (fr _)) ((s.s.kp k13).kp (kp _))⟩
    exact (h2.fr (fr _).tup).put (rv.flat (fr _).tup d v hf) hf⟩⟩⟩
end
end Dx
set_option Elab.async false
set_option linter.all false
set_option maxRecDepth 100000
set_option maxHeartbeats 4000000
namespace Dx
open PySem PySem.Spec PyProof.Rows L2
/-! ### new things: readings for all of them -/
abbrev Gh := Nat → Addr
def tCG (K : PySem.W.Frag) (M : AS) (A : As) (δ : LS) (B : Gh → As) (d : Gh → D) : TE := fun σ H Q => St0 K M A δ σ H ∧ ∀ (g : Gh) v H', (∀ i, H (g i) = none) → Kp M H H' → (B g).p H' → Rp K M H' v (d g) → Q v H'
section
variable {X : Cx} {M : AS} {A B C G : As} {δ δ' : LS} {pos p p2 apos cpos : Pos} {x y z d : D} {a b e o tg iter : Expr} {items : List D} {st : Stmt} {rest sts : List Stmt} {ou : Out}
theorem e_noG {Bg : Gh → As} {dg : Gh → D} (h : PE X e (tCG X.K M A δ Bg dg)) (hB : ∀ g H, (Bg g).p H → B.p H) (hd : ∀ g, dg g = d := by intro _; rfl) : PE X e (tC X.K M A δ B d) := pe_imp h fun σ H Q ⟨s, q⟩ => ⟨s, fun g v H' n k b r => q v H' k (hB g H' b) (by rw [← hd g]; exact r)⟩
theorem g_to {Bg Cg : Gh → As} {dg : Gh → D} (h : PE X e (tCG X.K M A δ Bg dg)) (hB : ∀ g H, (Bg g).p H → (Cg g).p H) : PE X e (tCG X.K M A δ Cg dg) := pe_imp h fun σ H Q ⟨s, q⟩ => ⟨s, fun g v H' n k b r => q g v H' n k (hB g H' b) r⟩
/-- a statement with new things, then what holds for all of them -/
theorem ss_consG (H0 : Hp) {Bg : Gh → As} {δg : Gh → LS} (h1 : PS X st (tO X.K M A δ (.all fun g => .nx (Bg g) (δg g)))) (hA : ∀ H a, A.p H → H a = none → H0 a = none) (h2 : ∀ g : Gh, (∀ i, H0 (g i) = none) → PSs X rest (tO X.K M (Bg g) (δg g) ou)) : PSs X (st :: rest) (tO X.K M A δ ou) :=
  pss_imp (pss_cons h1 (pss_any (sts := rest))) fun E σ H ⟨s, q⟩ => ⟨s, fun g n σ' H' k b r => ⟨_, h2 g fun i => hA H _ s.a (n i), ⟨b, tr_kp s.tr k, r⟩, Out.ok_kp k q⟩⟩
/-- .. the block's own new things are among them -/
theorem ss_consGo (π : Nat → Nat) {Bg : Gh → As} {δg : Gh → LS} {o : Gh → Out} (h1 : PS X st (tO X.K M A δ (.all fun g => .nx (Bg g) (δg g)))) (h2 : ∀ g : Gh, PSs X rest (tO X.K M (Bg g) (δg g) (o fun i => g (π i)))) : PSs X (st :: rest) (tO X.K M A δ (.all o)) :=
  pss_imp (pss_cons h1 (pss_any (sts := rest))) fun E σ H ⟨s, q⟩ => ⟨s, fun g n σ' H' k b r => ⟨_, h2 g, ⟨b, tr_kp s.tr k, r⟩, Out.ok_kp k (q (fun i => g (π i)) fun i => n (π i))⟩⟩
theorem s_setG (i : Nat) {Bg : Gh → As} {dg : Gh → D} {n : Str} {pos' : Pos} (hN : X.N.Nodup) (he : PE X e (tCG X.K M A δ Bg dg)) (hi : X.N[i]? = some n := by rfl) (hx : Loc X.env.scope n := by first | exact Or.inl rfl | exact Or.inr rfl) (hs : swapsWith e (some (.Name n pos')) pos.line X.env = pure false := by rfl)
    (hf : X.fn n = true ∨ X.env.scope.names.lookup n = some .local := by first | exact .inl rfl | exact .inr rfl) : PS X (.Assign [.Name n pos'] e pos) (tO X.K M A δ (.all fun g => .nx (Bg g) (δ.set i (some (dg g))))) :=
  ps_imp (ps_set (i := i) hN hi hx he hs hf) fun E σ H ⟨s, q⟩ => ⟨s, fun g v H1 n k1 b1 r1 => q g n _ H1 k1 b1 ((s.s.kp k1).set i r1)⟩
theorem s_exprG {Bg : Gh → As} {dg : Gh → D} (he : PE X e (tCG X.K M A δ Bg dg)) (hs : swapsWith e none pos.line X.env = pure false := by rfl) : PS X (.Expr e pos) (tO X.K M A δ (.all fun g => .nx (Bg g) δ)) := ps_imp (ps_expr he hs) fun E σ H ⟨s, q⟩ => ⟨s, fun g v H1 n k1 b1 r1 => q g n σ H1 k1 b1 (s.s.kp k1)⟩
theorem s_retG {Bg : Gh → As} {dg : Gh → D} (he : PE X e (tCG X.K M A δ Bg dg)) : PS X (.Return (some e) pos) (tO X.K M A δ (.all fun g => .rt (Bg g) (dg g))) := ps_imp (ps_ret he) fun E σ H ⟨s, q⟩ => ⟨s, fun g v H1 n k1 b1 r1 => q g n v H1 k1 b1 r1⟩
/-- o.f = e, e new -/
theorem s_putFG {q Cl : Addr} {n : Str} {es : List (Str × D)} {pos' : Pos} {Bg : Gh → As} {dg : Gh → D} (cl : Cls X.K Cl) (na : NoAttr X.K Cl n) (he : PE X e (tCG X.K M A δ Bg dg)) (ho : ∀ g, PE X o (tC X.K M (Bg g) δ (Bg g) (.ref q))) (hi : ∀ g H, (Bg g).p H → (insA X.K q Cl es).p H) (hf : ∀ g, flatD (dg g) = true) (hl : es.length < 1000) {Es : Gh → As}
    (hE : ∀ g H u, (Bg g).p H → (insA X.K q Cl (putFD n (dg g) es)).p (upd H q u) → Fr (fun a => a ≠ q) H (upd H q u) → (Es g).p (upd H q u)) (hs : swapsWith e (some (.Attribute o n pos')) pos.line X.env = pure false := by rfl) : PS X (.Assign [.Attribute o n pos'] e pos) (tO X.K M A δ (.all fun g => .nx (Es g) δ)) := by
  have hany : PE X o (fun σ H Q => ∃ t, PE X o t ∧ t σ H Q) := ⟨fun pins s σ H Q I ⟨t, h, q⟩ => h.run pins s σ H Q I q⟩
  exact ps_imp (ps_fld hany he hs) fun E σ H ⟨s, h⟩ => ⟨s, fun g v H1 nw k1 b1 r1 => ⟨_, ho g, s.kp k1 b1, fun w H2 k2 c2 r2 => by
    cases r2
    obtain ⟨dx, fs, h1, h2⟩ := hi g H2 c2
    have rv := (r1.kp k2 _ v)
    have fr : ∀ u, Fr (fun a => a ≠ q) H2 (upd H2 q u) := fun u => .upd h1 (fun _ z => by cases z) fun z => z rfl
    have kp : Kp M H2 (upd H2 q (.ins Cl dx (putF n v fs))) := .upd h1 (fun _ z => by cases z) (.inr fun _ z => by cases z)
    refine ⟨q, Cl, dx, fs, rfl, h1, cl, na, by rw [h2.len]; exact hl, ?_⟩
    refine h g nw σ _ ((k1.trans k2).trans kp) (hE g H2 _ c2 ⟨dx, _, upd_same, ?_⟩ (fr _)) ((s.s.kp (k1.trans k2)).kp kp)
    exact (h2.fr (fr _).tup).put (rv.flat (fr _).tup _ v (hf g)) (hf g)⟩⟩
/-- {} -/
theorem e_new0 : PE X (.Dict [] [] pos) (tCG X.K M A δ (fun g => A.and (tabA X.K (g 0) [])) (fun g => .ref (g 0))) :=
  pe_imp pe_dnewK fun σ H Q ⟨s, q⟩ => fun p hp => q (fun _ => p) _ _ (fun _ => hp) (.new hp) ⟨A.mono (Same.new hp) s.a, [], upd_same, .nil⟩ (.ref p)
/-- dict(t) -/
theorem e_dcopy {q : Addr} {es : List (Str × D)} (hm : X.mg "dict" = none) (h : PE X e (tC X.K M A δ B (.ref q))) (hl : ∀ H, B.p H → (tabA X.K q es).p H) (hg : Gl X "dict" := by rfl) (hs : starEach (e :: []) X.env = (false, eval e X.env) :: starEach [] X.env := by rfl) (hpl : (backTo pos (starEach [] X.env)).any (·.1) = false := by rfl) :
    PE X (.Call (.Name "dict" p) [e] [] pos) (tCG X.K M A δ (fun g => B.and (tabA X.K (g 0) es)) (fun g => .ref (g 0))) :=
  pe_imp (pe_callTy call_dictD hg hm (by decide +kernel) (a_one h hs) (by decide) (by decide) hs hpl) fun σ H Q ⟨s, h⟩ => ⟨s, fun vs H1 k1 b1 r1 => by
    cases r1 with
    | cons r1 r2 =>
      cases r2
      cases r1
      obtain ⟨kvs, h1, h2⟩ := hl H1 b1
      exact ⟨q, kvs, rfl, .inl h1, fun p hp => h (fun _ => p) _ _ (fun _ => k1.free hp) (k1.trans (.new hp)) ⟨B.mono (Same.new hp) b1, kvs, upd_same, h2.fr fun a xs z => Same.new hp a _ z⟩ (.ref p)⟩⟩
end

/-! ### defs that change things -/
/-- S: the things that may be changed; C g, d g: what stands then, and the value, for the new things g -/
def spWG (K : PySem.W.Frag) (pre : AS → Hp → List D → List Addr → (Gh → As) → (Gh → D) → Prop) : Sp := fun vs H Q _ => ∃ (M : AS) (ds : List D) (S : List Addr) (C : Gh → As) (d : Gh → D), Tr M H ∧ RpL K M H vs ds ∧ pre M H ds S C d ∧
  ∀ (g : Gh) v H', (∀ i, H (g i) = none) → Kp M H H' → Mv S H H' → (C g).p H' → Rp K M H' v (d g) → Q v H'
def SpOkG (K : PySem.W.Frag) (M : AS) (sp : Sp) (B : As) (ds : List D) (C : Gh → As) (d : Gh → D) : Prop := ∀ (H : Hp) (vs : List V) (Q : VK), B.p H → Tr M H → RpL K M H vs ds → (∀ (g : Gh) v H', (∀ i, H (g i) = none) → Kp M H H' → (C g).p H' → Rp K M H' v (d g) → Q v H') → sp vs H Q E0
theorem SpOkG.no {K : PySem.W.Frag} {M : AS} {sp : Sp} {B : As} {ds : List D} {C : As} {d : D} (h : SpOkG K M sp B ds (fun _ => C) (fun _ => d)) : SpOk K M sp B ds C d := fun H vs Q b t r q => h H vs Q b t r fun g v H' _ k c r => q v H' k c r
theorem spWG_ok {K : PySem.W.Frag} {M : AS} {A : As} {ds : List D} {S : List Addr} {C G : Gh → As} {d : Gh → D} {pre : AS → Hp → List D → List Addr → (Gh → As) → (Gh → D) → Prop} (h : ∀ H, A.p H → pre M H ds S C d)
    (hG : ∀ (g : Gh) H H', (∀ i, H (g i) = none) → A.p H → Mv S H H' → (C g).p H' → (G g).p H') : SpOkG K M (spWG K pre) A ds G d := fun H vs Q a t r q => ⟨M, ds, S, C, d, t, r, h H a, fun g v H' n k m c r' => q g v H' n k (hG g H H' n a m c) r'⟩
/-- how a body's outcome ends -/
def Out.fin (φ : Hp → D → Prop) (H : Hp) : Out → Prop
  | .rt B d => ∀ H', B.p H' → φ H' d
  | .nx B _ => ∀ H', B.p H' → φ H' .non
  | .bk _ _ => False
  | .all o => ∀ g : Nat → Addr, (∀ i, H (g i) = none) → (o g).fin φ H
  | .rx p => ∀ H' d, p H' d → φ H' d
theorem Out.fin_ok {K : PySem.W.Frag} {M : AS} {H : Hp} {φ : Hp → D → Prop} {Q : VK} {E : Ends} (hn : ∀ σ' H', E.nx σ' H' ↔ Q .non H') (hr : ∀ v H', E.rt v H' ↔ Q v H') (q : ∀ v H' d, Kp M H H' → φ H' d → Rp K M H' v d → Q v H') : ∀ {o : Out}, o.fin φ H → o.ok K M H E
  | .rt B d, h => fun v H' k b r => (hr v H').mpr (q v H' d k (h H' b) r)
  | .nx B δ, h => fun σ' H' k b r => (hn σ' H').mpr (q .non H' .non k (h H' b) .non)
  | .bk B δ, h => h.elim
  | .all o, h => fun g n => Out.fin_ok hn hr q (h g n)
  | .rx p, h => fun v H' d k b r => (hr v H').mpr (q v H' d k (h H' d b) r)
/-- without new things -/
def spW (K : PySem.W.Frag) (pre : AS → Hp → List D → List Addr → As → D → Prop) : Sp := fun vs H Q _ => ∃ (M : AS) (ds : List D) (S : List Addr) (C : As) (d : D), Tr M H ∧ RpL K M H vs ds ∧ pre M H ds S C d ∧
  ∀ v H', Kp M H H' → Mv S H H' → C.p H' → Rp K M H' v d → Q v H'
theorem spW_ok {K : PySem.W.Frag} {M : AS} {A : As} {ds : List D} {S : List Addr} {C G : As} {d : D} {pre : AS → Hp → List D → List Addr → As → D → Prop} (h : ∀ H, A.p H → pre M H ds S C d)
    (hG : ∀ H H', A.p H → Mv S H H' → C.p H' → G.p H') : SpOk K M (spW K pre) A ds G d := fun H vs Q a t r q => ⟨M, ds, S, C, d, t, r, h H a, fun v H' k m c r' => q v H' k (hG H H' a m c) r'⟩
section
variable {P : Program} {w : World} {K : PySem.W.Frag} {mg : Str → Option Value} {base : Heap} {x qual : Str} {params : Arguments} {body : List Stmt} {scope : Scope} {dvs : List V} {kws : List (Str × V)} {f : Addr} {fd : FuncData}
theorem okWG {N ps : List Str} {k : Nat} {pre : AS → Hp → List D → List Addr → (Gh → As) → (Gh → D) → Prop} (F : FunD K x qual params body scope dvs kws f fd) (S : FnScope N ps scope) (len : ∀ M H ds Sx C d, pre M H ds Sx C d → ds.length = ps.length)
    (hbody : ∀ (cdv : Value) (A : Around) (outer : List Env) (s : Shared) (H : Hp) (E : XK) (M : AS) (ds : List D) (Sx : List Addr) (C : Gh → As) (d : Gh → D), Room k (A.deeper (envOfC qual scope s.heap.objs.size f cdv)) → Tr M H → pre M H ds Sx C d →
      ∃ (Ast : As) (o : Out), Ast.p H ∧ o.fin (fun H' dd => ∃ g : Gh, (∀ i, H (g i) = none) ∧ Mv Sx H H' ∧ (C g).p H' ∧ dd = d g) H ∧ PSs (cxOf CX0 P w K mg base N qual scope f cdv A outer s H E).nox body (tO K M Ast (startD N ds) o)) : FnOk P w K mg base CX0 (k + 1) f fd ps (spWG K pre) := by
  refine F.ok S (fun vs H Q E h => ?_) fun cdv A outer s H vs Q E hr h => ?_
  · obtain ⟨M, ds, Sx, C, d, t, r, hp, _⟩ := h
    rw [r.length]
    exact len M H ds Sx C d hp
  · obtain ⟨M, ds, Sx, C, d, t, r, hp, q⟩ := h
    obtain ⟨Ast, o, ha, ho, hb⟩ := hbody cdv A outer s H E M ds Sx C d hr t hp
    refine ⟨_, hb.nox, ⟨ha, t, .start r⟩, Out.fin_ok (Q := Q) (fun _ _ => Iff.rfl) (fun _ _ => Iff.rfl) (fun v H' dd kk ⟨g, n, m, c, e⟩ rv => q g v H' n kk m c (e ▸ rv)) ho⟩
theorem okW {N ps : List Str} {k : Nat} {pre : AS → Hp → List D → List Addr → As → D → Prop} (F : FunD K x qual params body scope dvs kws f fd) (S : FnScope N ps scope) (len : ∀ M H ds Sx C d, pre M H ds Sx C d → ds.length = ps.length)
    (hbody : ∀ (cdv : Value) (A : Around) (outer : List Env) (s : Shared) (H : Hp) (E : XK) (M : AS) (ds : List D) (Sx : List Addr) (C : As) (d : D), Room k (A.deeper (envOfC qual scope s.heap.objs.size f cdv)) → Tr M H → pre M H ds Sx C d →
      ∃ (Ast : As) (o : Out), Ast.p H ∧ o.fin (fun H' dd => Mv Sx H H' ∧ C.p H' ∧ dd = d) H ∧ PSs (cxOf CX0 P w K mg base N qual scope f cdv A outer s H E).nox body (tO K M Ast (startD N ds) o)) : FnOk P w K mg base CX0 (k + 1) f fd ps (spW K pre) := by
  refine F.ok S (fun vs H Q E h => ?_) fun cdv A outer s H vs Q E hr h => ?_
  · obtain ⟨M, ds, Sx, C, d, t, r, hp, _⟩ := h
    rw [r.length]
    exact len M H ds Sx C d hp
  · obtain ⟨M, ds, Sx, C, d, t, r, hp, q⟩ := h
    obtain ⟨Ast, o, ha, ho, hb⟩ := hbody cdv A outer s H E M ds Sx C d hr t hp
    refine ⟨_, hb.nox, ⟨ha, t, .start r⟩, Out.fin_ok (Q := Q) (fun _ _ => Iff.rfl) (fun _ _ => Iff.rfl) (fun v H' dd kk ⟨m, c, e⟩ rv => q v H' kk m c (e ▸ rv)) ho⟩
end
section
variable {X : Cx} {M : AS} {A B C G : As} {δ δ' : LS} {pos p p2 apos cpos : Pos} {x y z d : D} {a b e o tg iter : Expr} {items : List D}
variable {k : Nat} {f : Addr} {fd : FuncData} {ps : List Str} {sp : Sp} {Gg : Gh → As} {dg : Gh → D}
theorem g_call {es : List Expr} {ds : List D} {n : Str} (F : Has X.prog X.w X.K X.mg X.base k f ps sp) (hr : Room k X.A) (hm : X.mg n = some (.ref f)) (ha : PA X (e :: es) (tCA X.K M A δ B ds)) (h : SpOkG X.K M sp B ds Gg dg)
    (hg : Gl X n := by rfl) (hdb : (n == ("__debug__" : Str)) = false := by decide) (he : starEach (e :: es) X.env = (false, eval e X.env) :: starEach es X.env := by rfl) (hpl : (backTo pos (starEach es X.env)).any (·.1) = false := by rfl) : PE X (.Call (.Name n p) (e :: es) [] pos) (tCG X.K M A δ Gg dg) := by
  obtain ⟨fd, F, hb, hk⟩ := F
  exact pe_imp (pe_call F hr hg hm hk hb .nil pass0 ha hdb he hpl) fun σ H Q ⟨s, q⟩ => ⟨s, fun vs H1 k1 b1 r1 => by
    show sp (vs ++ []) H1 Q E0
    rw [List.append_nil]
    exact h H1 vs Q b1 (tr_kp s.tr k1) r1 fun g v H2 n k2 c2 r2 => q g v H2 (fun i => k1.free (n i)) (k1.trans k2) c2 r2⟩
theorem g_meth {es : List Expr} {ds : List D} {m : Str} {Cl q : Addr} {pl : Sem Bool} (cl : Cls X.K Cl) (hm : Meth X.K Cl m f) (F : Has X.prog X.w X.K X.mg X.base k f ps sp) (hr : Room k X.A) (ho : PE X o (tC X.K M A δ B (.ref q)))
    (hi : ∀ H, B.p H → ∃ dx fs, H q = some (.ins Cl dx fs) ∧ fs.lookup m = none) (ha : PA X (e :: es) (tCA X.K M B δ C ds)) (h : SpOkG X.K M sp C (.ref q :: ds) Gg dg)
    (hst : starEach (e :: es) X.env = (false, eval e X.env) :: starEach es X.env := by rfl) (hpl : (backTo pos (starEach es X.env)).any (·.1) = false := by rfl)
    (ht : eval (.Call (.Attribute o m apos) (e :: es) [] pos) X.env = (do
      let ov ← eval o X.env
      standAt apos.atName
      let (f, first) ← holding [ov] (getMethod ov m pl)
      callWith pos f first (backTo pos (starEach (e :: es) X.env)) (backToKw pos (keywordEach [] X.env))) := by rfl) : PE X (.Call (.Attribute o m apos) (e :: es) [] pos) (tCG X.K M A δ Gg dg) := by
  obtain ⟨fd, F, hb, hk⟩ := F
  exact pe_imp (pe_meth ho cl hm F hr hb .nil pass0 ha hst hpl ht) fun σ H Q ⟨s, q'⟩ => ⟨s, fun v H1 k1 b1 r1 => by
    cases r1
    obtain ⟨dx, fs, e1, e2⟩ := hi H1 b1
    refine ⟨_, dx, fs, rfl, e1, e2, s.kp k1 b1, fun vs H2 k2 c2 r2 => ?_⟩
    show sp (_ :: (vs ++ [])) H2 Q E0
    rw [List.append_nil]
    exact h H2 _ Q c2 (tr_kp s.tr (k1.trans k2)) (.cons (.ref _) r2) fun g v H3 n k3 c3 r3 => q' g v H3 (fun i => k1.free (k2.free (n i))) ((k1.trans k2).trans k3) c3 r3⟩
theorem g_meth0 {m : Str} {Cl q : Addr} {pl : Sem Bool} (cl : Cls X.K Cl) (hm : Meth X.K Cl m f) (F : Has X.prog X.w X.K X.mg X.base k f ps sp) (hr : Room k X.A) (ho : PE X o (tC X.K M A δ B (.ref q)))
    (hi : ∀ H, B.p H → ∃ dx fs, H q = some (.ins Cl dx fs) ∧ fs.lookup m = none) (h : SpOkG X.K M sp B [.ref q] Gg dg)
    (ht : eval (.Call (.Attribute o m apos) [] [] pos) X.env = (do
      let ov ← eval o X.env
      standAt apos.atName
      let (f, first) ← holding [ov] (getMethod ov m pl)
      callWith pos f first (backTo pos (starEach [] X.env)) (backToKw pos (keywordEach [] X.env))) := by rfl) : PE X (.Call (.Attribute o m apos) [] [] pos) (tCG X.K M A δ Gg dg) := by
  obtain ⟨fd, F, hb, hk⟩ := F
  exact pe_imp (pe_meth0 ho cl hm F hr hb .nil pass0 ht) fun σ H Q ⟨s, q'⟩ => ⟨s, fun v H1 k1 b1 r1 => by
    cases r1
    obtain ⟨dx, fs, e1, e2⟩ := hi H1 b1
    refine ⟨_, dx, fs, rfl, e1, e2, ?_⟩
    exact h H1 _ Q b1 (tr_kp s.tr k1) (.cons (.ref _) .nil) fun g v H3 n k3 c3 r3 => q' g v H3 (fun i => k1.free (n i)) (k1.trans k3) c3 r3⟩
/-- what an __init__ finds: the new object without fields -/
def newO (K : PySem.W.Frag) (A : As) (q Cl : Addr) : As := A.and (insA K q Cl [])
/-- C(e, ..) -/
theorem g_make (H0 : Hp) {es : List Expr} {ds : List D} {n : Str} {Cl : Addr} {Gi : Addr → Gh → As} (Mk0 : Mk X.K Cl f) (F : Has X.prog X.w X.K X.mg X.base k f ps sp) (hr : Room (k + 1) X.A) (hm : X.mg n = some (.ref Cl)) (ha : PA X (e :: es) (tCA X.K M A δ B ds))
    (hA : ∀ H a, B.p H → H a = none → H0 a = none) (h : ∀ q, H0 q = none → SpOkG X.K M sp (newO X.K B q Cl) (.ref q :: ds) (Gi q) (fun _ => .non)) (hg : Gl X n := by rfl) (hdb : (n == ("__debug__" : Str)) = false := by decide) (he : starEach (e :: es) X.env = (false, eval e X.env) :: starEach es X.env := by rfl) (hpl : (backTo pos (starEach es X.env)).any (·.1) = false := by rfl) :
    PE X (.Call (.Name n p) (e :: es) [] pos) (tCG X.K M A δ (fun g => Gi (g 0) (fun i => g (i + 1))) (fun g => .ref (g 0))) := by
  obtain ⟨fd, F, hb, hk⟩ := F
  exact pe_imp (pe_make Mk0 F hr hg hm hb .nil pass0 ha hdb he hpl) fun σ H Q ⟨s, q⟩ => ⟨s, fun vs H1 k1 b1 r1 => fun x dx hx hdx ne => by
    rw [List.append_nil]
    have e1 : Same H1 (upd (upd H1 dx (.own x)) x (.ins Cl dx [])) := (Same.new hdx).trans (Same.new (by rw [upd_ne (Ne.symm ne)]; exact hx))
    refine h x (hA H1 x b1 hx) _ _ _ ⟨B.mono e1 b1, dx, [], upd_same, .nil⟩ (tr_kp s.tr (k1.trans (.of_same e1))) (.cons (.ref x) (r1.kp (.of_same e1) _ _)) fun g v H2 n k2 c2 r2 => ?_
    refine ⟨r2.non_inv, ?_⟩
    have n1 : ∀ i, H (g i) = none := fun i => k1.free ((Kp.of_same (M := M) e1).free (n i))
    exact q (fun i => match i with
      | 0 => x
      | i + 1 => g i) _ H2 (fun i => match i with
      | 0 => k1.free hx
      | i + 1 => n1 i) ((k1.trans (.of_same e1)).trans k2) c2 (.ref x)⟩
end
end Dx
set_option Elab.async false
set_option linter.all false
set_option maxRecDepth 100000
set_option maxHeartbeats 4000000
namespace Dx
open PySem PySem.Spec PyProof.Rows L2
/-! ### a dict that is walked stands still -/
def As.frz (A : As) (d : Addr) (od : Obj) (u : HO) : As where
  p := fun H => H d = some (.frz od u) ∧ (∀ xs, u ≠ .tup xs) ∧ A.p (upd H d u)
  L := fun a => A.L a ∨ a = d
  fr := fun {H H'} f ⟨h, ht, a⟩ => by
    have h' := f.keep d _ (.inr rfl) h
    refine ⟨h', ht, A.fr ⟨fun b o l q => ?_, fun b xs q => ?_, fun b q => ?_⟩ a⟩
    · by_cases z : b = d
      · subst z
        rw [upd_same] at q ⊢
        exact q
      · rw [upd_ne z] at q ⊢
        exact f.keep b o (.inl l) q
    · by_cases z : b = d
      · subst z
        rw [upd_same] at q ⊢
        exact q
      · rw [upd_ne z] at q ⊢
        exact f.tup b xs q
    · by_cases z : b = d
      · subst z
        rw [upd_same]
        exact fun w => by cases w
      · rw [upd_ne z] at q ⊢
        exact f.trk b q
  trk := fun {H a} ⟨h, ht, q⟩ l => by
    by_cases z : a = d
    · subst z
      rw [h]
      exact fun w => by cases w
    · have := A.trk q (l.resolve_right z)
      rw [upd_ne z] at this
      exact this
section
variable {X : Cx} {M : AS} {A B C G : As} {δ δ' : LS} {pos p p2 apos cpos : Pos} {x y z d : D} {a b e o tg iter : Expr} {items : List D}
theorem lock_in {q : Addr} {od : Obj} {kvs : List (Key × V)} {σ : L2.St} {H : Hp} (s : St0 X.K M A δ σ H) (h : H q = some (.dK kvs)) : St0 X.K M (A.frz q od (.dK kvs)) δ σ (upd H q (.frz od (.dK kvs))) ∧ Kp M H (upd H q (.frz od (.dK kvs))) := by
  have k : Kp M H (upd H q (.frz od (.dK kvs))) := .upd h (fun _ z => by cases z) (.inr fun _ z => by cases z)
  exact ⟨s.kp k ⟨upd_same, fun _ z => (by cases z), by rw [upd_upd, upd_self h]; exact s.a⟩, k⟩
theorem lock_out {q : Addr} {od : Obj} {kvs : List (Key × V)} {H : Hp} (b : (B.frz q od (.dK kvs)).p H) : Kp M H (upd H q (.dK kvs)) ∧ B.p (upd H q (.dK kvs)) := ⟨.upd b.1 (fun _ z => by cases z) (.inr fun _ z => by cases z), b.2.2⟩
theorem e_lock {q : Addr} {es : List (Str × D)} (hl : ∀ H, A.p H → (tabA X.K q es).p H) (h : ∀ od kvs, PE X e (tC X.K M (A.frz q od (.dK kvs)) δ (B.frz q od (.dK kvs)) d)) : PE X e (tC X.K M A δ B d) := by
  have hany : PE X e (fun σ H Q => ∃ t, PE X e t ∧ t σ H Q) := ⟨fun pins s σ H Q I ⟨t, h, q⟩ => h.run pins s σ H Q I q⟩
  exact pe_imp (pe_lock hany) fun σ H Q ⟨s, q'⟩ => by
    obtain ⟨kvs, h1, h2⟩ := hl H s.a
    refine ⟨q, _, h1, trivial, fun od => ⟨_, h od kvs, (lock_in s h1).1, fun v H' k b r => ?_⟩⟩
    have ko := lock_out (M := M) b
    exact ⟨b.1, q' v _ (((lock_in s h1).2.trans k).trans ko.1) ko.2 (r.kp ko.1 _ _)⟩
theorem g_lock {q : Addr} {es : List (Str × D)} {Bg : Gh → As} {dg : Gh → D} (hl : ∀ H, A.p H → (tabA X.K q es).p H) (h : ∀ od kvs, PE X e (tCG X.K M (A.frz q od (.dK kvs)) δ (fun g => (Bg g).frz q od (.dK kvs)) dg)) : PE X e (tCG X.K M A δ Bg dg) := by
  have hany : PE X e (fun σ H Q => ∃ t, PE X e t ∧ t σ H Q) := ⟨fun pins s σ H Q I ⟨t, h, q⟩ => h.run pins s σ H Q I q⟩
  exact pe_imp (pe_lock hany) fun σ H Q ⟨s, q'⟩ => by
    obtain ⟨kvs, h1, h2⟩ := hl H s.a
    refine ⟨q, _, h1, trivial, fun od => ⟨_, h od kvs, (lock_in s h1).1, fun g v H' n k b r => ?_⟩⟩
    have ko := lock_out (M := M) b
    exact ⟨b.1, q' g v _ (fun i => (lock_in (od := od) s h1).2.free (n i)) (((lock_in s h1).2.trans k).trans ko.1) ko.2 (r.kp ko.1 _ _)⟩
theorem KvR.pairs {K : PySem.W.Frag} {M : AS} {H : Hp} : ∀ {kvs : List (Key × V)} {es : List (Str × D)}, KvR K H kvs es → ∀ {i : Nat} {k : Key} {v : V}, kvs[i]? = some (k, v) → ∃ n d, k = Sum.inr n ∧ es[i]? = some (n, d) ∧ Rp K M H v d
  | _, _, .nil, i, k, v, h => by simp at h
  | _, _, .cons r f h, 0, k, v, e => by
    simp at e
    obtain ⟨rfl, rfl⟩ := e
    exact ⟨_, _, rfl, rfl, r.flat (fun _ _ z => z) _ _ f⟩
  | _, _, .cons r f h, i + 1, k, v, e => h.pairs (M := M) (i := i) (by simpa using e)
/-- the pairs of a locked dict -/
def entD (e : Str × D) : D := .tup [.str e.1, e.2]
theorem i_items {q : Addr} {es : List (Str × D)} {od : Obj} {kvs : List (Key × V)} {elts : List Expr} {kk : Nat} {tpos : Pos} (he : PE X e (tC X.K M A δ (B.frz q od (.dK kvs)) (.ref q))) (hl : ∀ H, B.p H → (tabA X.K q es).p H) (hbase : attributeBase e "items" X.env (eval e X.env) = eval e X.env := by rfl) (hline : (apos.endLine == cpos.line) = true := by rfl) :
    PIt X M (.Tuple elts kk tpos) (.Call (.Attribute e "items" apos) [] [] cpos) A δ (B.frz q od (.dK kvs)) (fun H => H q = some (.frz od (.dK kvs))) (es.map entD) := ⟨_, pi_items he hbase hline, fun σ H R s h => ⟨s, fun v H1 k1 b1 r1 => by
  cases r1
  obtain ⟨h1, _, b2⟩ := b1
  obtain ⟨kvs', h3, h4⟩ := hl _ b2
  rw [upd_same] at h3
  cases h3
  refine ⟨q, od, kvs, rfl, h1, h (Iti q od kvs) kvs.length _ _ H1 k1 ⟨h1, fun _ z => (by cases z), b2⟩ walk_items (by rw [List.length_map, h4.len]) fun M' hm => ⟨fun H2 k2 w => w, fun i H2 x H3 k2 y hi => ?_⟩⟩
  obtain ⟨T, v, w, rfl, hT, rfl, e1, e2⟩ := y
  have e1 : kvs[i]?.map (fun kv => kV kv.1) = some v := e1
  have e2 : kvs[i]?.map Prod.snd = some w := e2
  cases ek : kvs[i]? with
  | none =>
    rw [ek] at e1
    cases e1
  | some kv =>
    rw [ek] at e1 e2
    cases e1
    cases e2
    have h5 : KvR X.K H2 kvs es := h4.fr fun a xs z => k2.tup a xs (by
      rw [upd_ne (fun z' => by rw [z', upd_same] at z; cases z)] at z
      exact z)
    obtain ⟨n, d', e3, e4, r4⟩ := h5.pairs (M := M') (k := kv.1) (v := kv.2) (i := i) ek
    refine ⟨Same.new hT, entD (n, d'), by rw [List.getElem?_map, e4] <;> rfl, ?_⟩
    show Rp X.K M' (upd H2 T (.tup [kV kv.1, kv.2])) (.ref T) (entD (n, d'))
    rw [e3]
    exact .tup upd_same (.cons (.str _) (.cons (r4.kp (.new hT) _ _) .nil))⟩⟩

/-! ### dict comprehensions -/
/-- exactly this thing -/
def objA (p : Addr) (o : HO) : As where
  p := fun H => H p = some o
  L := fun a => a = p
  fr := fun f h => f.keep _ _ rfl h
  trk := fun {H a} h l => by
    rw [l, h]
    exact fun z => by cases z
theorem dc_it {J : It} {n : Nat} {G : Hp → Prop} {Y : Nat → Hp → V → Hp → Prop} (w : Walk J n G Y) {g : TG} {tt : TT} {tk tv : TE} {vs : List Nat} {σ : L2.St} {H1 : Hp} {D : Addr} {Qd : Hp → Prop} (Pv : Nat → Hp → Prop) (h0 : Pv 0 (upd H1 D (.dK []))) (hG : ∀ i H, i ≤ n → Pv i H → G H)
    (hs : ∀ i x H H', i < n → Pv i H → Y i H x H' → g x (L2.wipe σ vs) H' fun σ2 H2 => L2.wipe σ2 vs = L2.wipe σ vs ∧ tt σ2 H2 fun b H3 =>
      if b = true then tk σ2 H3 fun y H4 => tv σ2 H4 fun z H5 => ∃ kvs k, y = kV k ∧ H5 D = some (.dK kvs) ∧ kvs.length < sizeLine ∧ Pv (i + 1) (upd H5 D (.dK (putK kvs k z))) else Pv (i + 1) H3) (hd : ∀ H, Pv n H → Qd H) :
    ∃ W : Nat → Nat → Hp → Prop, (∃ m, W 0 m (upd H1 D (.dK []))) ∧ ∀ i m H, W i m H →
      (J.stop i H ∧ Qd H) ∨ (J.go i H ∧ ∃ Nx : Hp → Prop, (∀ H', Nx H' → ∃ m', m' < m ∧ W (i + 1) m' H') ∧ ∀ x H', J.yld i H x H' → g x (L2.wipe σ vs) H' fun σ2 H2 => L2.wipe σ2 vs = L2.wipe σ vs ∧ tt σ2 H2 fun b H3 =>
        if b = true then tk σ2 H3 fun y H4 => tv σ2 H4 fun z H5 => ∃ kvs k, y = kV k ∧ H5 D = some (.dK kvs) ∧ kvs.length < sizeLine ∧ Nx (upd H5 D (.dK (putK kvs k z))) else Nx H3) := by
  refine ⟨fun i m H => m = n - i ∧ i ≤ n ∧ Pv i H, ⟨n, by simp, Nat.zero_le _, h0⟩, ?_⟩
  rintro i m H ⟨rfl, hi, p⟩
  have q := hG i H hi p
  by_cases hlt : i < n
  · exact .inr ⟨w.goes i H hlt q, Pv (i + 1), fun H' p' => ⟨n - (i + 1), by omega, rfl, hlt, p'⟩, fun x H' y => hs i x H H' hlt p (w.yields i H x H' hlt q y)⟩
  · have e : i = n := by omega
    subst e
    exact .inl ⟨w.stops H q, hd H p⟩
def mkT (kf : D → Str) (vf : D → D) (ds : List D) : List (Str × D) := ds.foldl (fun es d => putT es (kf d) (vf d)) []
theorem mkT_snoc {kf : D → Str} {vf : D → D} {ds : List D} {d : D} : mkT kf vf (ds ++ [d]) = putT (mkT kf vf ds) (kf d) (vf d) := by
  unfold mkT
  rw [List.foldl_append] <;> rfl
theorem putT_len (es : List (Str × D)) (k : Str) (d : D) : (putT es k d).length ≤ es.length + 1 := by
  unfold putT
  split
  · rw [List.length_map]; omega
  · rw [List.length_append]; exact Nat.le_refl _
theorem mkT_len (kf : D → Str) (vf : D → D) (ds : List D) : (mkT kf vf ds).length ≤ ds.length := by
  unfold mkT
  have key : ∀ (ds : List D) (es : List (Str × D)), (ds.foldl (fun es d => putT es (kf d) (vf d)) es).length ≤ es.length + ds.length := by
    intro ds
    induction ds with
    | nil => intro es; exact Nat.le_refl _
    | cons d ds ih =>
      intro es
      have := ih (putT es (kf d) (vf d))
      have := putT_len es (kf d) (vf d)
      simp only [List.foldl_cons, List.length_cons]
      omega
  have := key ds []
  simpa using this
/-- {k: v for x in xs}; the turns leave the state as it is -/
theorem g_dc {kx vx : Expr} {scope : Scope} {own : List (Str × Nat)} {g : TG} {js : List Nat} {f : D → LS → Option LS} (kf : D → Str) (vf : D → D) (hc : X.calm = true) (hN : X.N.Nodup) (ok : BlkOk X.N X.env.scope scope own)
    {W : Hp → Prop} (hi : PIt X M tg iter A δ B W items) (hW : ∀ H, B.p H → W H) (hg : ∀ (s : Shared) (H : Hp) (C : Addr) (cl : List (Str × Addr)) (fp : List Addr), PG (X.blk s H scope (compEnvC scope cl C X.env) fp) tg g) (tgk : TgOk X.K g js f) (hjs : ∀ j ∈ js, j ∈ own.map (·.2)) (hz : items.length < sizeLine)
    (turns : ∀ R : As, ∀ d ∈ items, ∃ δ', f d (wipeL δ (own.map (·.2))) = some δ' ∧ flatD (vf d) = true ∧
      (∀ s H C cl fp, PE (X.blk s H scope (compEnvC scope cl C X.env) fp) kx (tC X.K M (B.and R) δ' (B.and R) (.str (kf d)))) ∧ (∀ s H C cl fp, PE (X.blk s H scope (compEnvC scope cl C X.env) fp) vx (tC X.K M (B.and R) δ' (B.and R) (vf d))))
    (hs : ∀ x, foldedSetIterable iter X.env x = pure x := by intro _; rfl) :
    PE X (.DictComp kx vx [⟨tg, iter, [], 0⟩] scope pos) (tCG X.K M A δ (fun g => B.and (tabA X.K (g 0) (mkT kf vf items))) (fun g => .ref (g 0))) := by
  obtain ⟨wi, hpi, hwi⟩ := hi.ex
  refine pe_imp (pe_dc hc hN hpi ok hg (fun s H C cl fp => pts_any (Y := fun s H C cl fp => X.blk s H scope (compEnvC scope cl C X.env) fp) s H C cl fp) (fun s H C cl fp => pe_any (Y := fun s H C cl fp => X.blk s H scope (compEnvC scope cl C X.env) fp) s H C cl fp) (fun s H C cl fp => pe_any (Y := fun s H C cl fp => X.blk s H scope (compEnvC scope cl C X.env) fp) s H C cl fp) hs) fun σ H Q ⟨s, q⟩ => ?_
  refine hwi σ H _ s fun J n G Y H1 k1 b1 w hn hGY => ?_
  intro D0 hD
  subst hn
  have tr1 : Tr M H1 := tr_kp s.tr k1
  have nL : ¬ B.L D0 := fun z => B.trk b1 z hD
  obtain ⟨hG, hY⟩ := hGY M fun a h => .inl h
  have s1 : RelS X.K M H1 σ δ := s.s.kp k1
  refine dc_it w (fun i H' => Kp M H1 H' ∧ B.p H' ∧ ∃ kvs, H' D0 = some (.dK kvs) ∧ KvR X.K H' kvs (mkT kf vf (items.take i))) ⟨.new hD, B.mono (Same.new hD) b1, [], upd_same, .nil⟩ (fun i H' _ pv => hG H' pv.1 (hW H' pv.2.1)) (fun i x H2 H3 hi2 pv y => ?_) fun H2 pv => ?_
  · obtain ⟨k2, a2, kvs, e2, r2⟩ := pv
    obtain ⟨sm, d, ed, rd⟩ := hY i H2 x H3 k2 y hi2
    obtain ⟨δ', ef, hfl, hk, hv⟩ := turns (objA D0 (.dK kvs)) d (List.mem_of_getElem? ed)
    have k3 : Kp M H1 H3 := k2.trans (.of_same sm)
    refine tgk M x d _ δ' _ H3 _ ef rd ((s1.kp k3).wipe _) fun σ' s' wp => ?_
    refine ⟨by rw [wp _ hjs, wipe_idem _ _ fun _ h => h], ?_⟩
    have e3 := sm _ _ e2
    have st : St0 X.K M (B.and (objA D0 (.dK kvs))) δ' σ' H3 := ⟨⟨B.mono sm a2, e3⟩, tr_kp tr1 k3, s'⟩
    refine ⟨tCT X.K M (B.and (objA D0 (.dK kvs))) δ' (B.and (objA D0 (.dK kvs))) true, fun s H C cl fp => ts_nil, st, fun H4 k4 b4 => ?_⟩
    refine iteT ?_
    refine ⟨_, hk, st.kp k4 b4, fun kv H5 k5 b5 r5 => ?_⟩
    refine ⟨_, hv, (st.kp k4 b4).kp k5 b5, fun z H6 k6 b6 r6 => ?_⟩
    have k46 : Kp M H3 H6 := (k4.trans k5).trans k6
    have e6 : H6 D0 = some (.dK kvs) := b6.2
    have kv' := r5.str_inv
    have len : kvs.length ≤ i := by
      rw [r2.len]
      exact Nat.le_trans (mkT_len _ _ _) (by rw [List.length_take]; exact Nat.min_le_left _ _)
    have fr : ∀ u, Fr (fun a => a ≠ D0) H6 (upd H6 D0 u) := fun u => .upd e6 (fun _ z => by cases z) fun z => z rfl
    refine ⟨kvs, Sum.inr (kf d), kv', e6, by omega, (k3.trans k46).trans (.upd e6 (fun _ z => by cases z) (.inr fun _ z => by cases z)), B.fr ((fr _).less fun a l z => nL (z ▸ l)) b6.1, _, upd_same, ?_⟩
    have e7 : items.take (i + 1) = items.take i ++ [d] := by rw [List.take_succ, ed] <;> rfl
    rw [e7, mkT_snoc]
    exact (((r2.fr (fun a xs z => sm a _ z)).fr k46.tup).fr (fr _).tup).put (r6.flat (fr _).tup _ _ hfl) hfl
  · obtain ⟨k2, a2, kvs, e2, r2⟩ := pv
    rw [List.take_length] at r2
    exact q (fun _ => D0) _ H2 (fun _ => k1.free hD) (k1.trans k2) ⟨a2, kvs, e2, r2⟩ (.ref D0)
theorem s_lock {st : Stmt} {q : Addr} {es : List (Str × D)} (hl : ∀ H, A.p H → (tabA X.K q es).p H) (h : ∀ od kvs, PS X st (tO X.K M (A.frz q od (.dK kvs)) δ (.nx (B.frz q od (.dK kvs)) δ'))) : PS X st (tO X.K M A δ (.nx B δ')) := by
  have hany : PS X st (fun E σ H => ∃ t, PS X st t ∧ t E σ H) := ⟨fun pins s σ H E I ⟨t, h, q⟩ => h.run pins s σ H E I q⟩
  exact ps_imp (ps_lock hany) fun E σ H ⟨s, q'⟩ => by
    obtain ⟨kvs, h1, h2⟩ := hl H s.a
    refine ⟨q, _, h1, trivial, fun od => ⟨_, h od kvs, (lock_in s h1).1, fun σ' H' k b r => ?_⟩⟩
    have ko := lock_out (M := M) b
    exact ⟨b.1, q' σ' _ (((lock_in s h1).2.trans k).trans ko.1) ko.2 (r.kp ko.1)⟩
/-- a for that never breaks, as a fold -/
theorem s_forF {α β : Type} (f : β → α → α) (enc : β → D) (At : α → As) (δt : α → LS) (P : Nat → α → Prop) {body : List Stmt} {g : TG} {js : List Nat} {tf : D → LS → Option LS} (bs : List β) (s0 : α) (hp : PassesOwn (model X.prog X.w) X.A X.env X.xe) (hc : X.calm = true)
    {W : Hp → Prop} (hi : PIt X M tg iter A δ (At s0) W (bs.map enc)) (hW : ∀ s H, (At s).p H → W H) (h0 : δ = δt s0) (hP : P 0 s0) (hg : PG X tg g) (tgk : TgOk X.K g js tf)
    (turn : ∀ i b s, bs[i]? = some b → P i s → ∃ δ', tf (enc b) (δt s) = some δ' ∧ P (i + 1) (f b s) ∧ PSs X body (tO X.K M (At s) δ' (.nx (At (f b s)) (δt (f b s)))))
    (hs : ∀ x, foldedSetIterable iter X.env x = pure x := by intro _; rfl) : PS X (.For tg iter body [] pos) (tO X.K M A δ (.nx (At (bs.foldl (fun s b => f b s) s0)) (δt (bs.foldl (fun s b => f b s) s0)))) := by
  have step : ∀ i b, bs[i]? = some b → (bs.take (i + 1)).foldl (fun s b => f b s) s0 = f b ((bs.take i).foldl (fun s b => f b s) s0) := by
    intro i b hb
    have e : bs.take (i + 1) = bs.take i ++ [b] := by rw [List.take_succ, hb] <;> rfl
    rw [e, List.foldl_append] <;> rfl
  have inv : ∀ i, i ≤ bs.length → P i ((bs.take i).foldl (fun s b => f b s) s0) := by
    intro i
    induction i with
    | zero => intro _; exact hP
    | succ i ih =>
      intro hi'
      have hb : bs[i]? = some (bs[i]'(by omega)) := List.getElem?_eq_getElem _
      obtain ⟨δ', _, h2, _⟩ := turn i _ _ hb (ih (by omega))
      rw [step i _ hb]
      exact h2
  have fin : (bs.take bs.length).foldl (fun s b => f b s) s0 = bs.foldl (fun s b => f b s) s0 := by rw [List.take_length]
  refine s_for bs.length (fun i => At ((bs.take i).foldl (fun s b => f b s) s0)) (fun i => δt ((bs.take i).foldl (fun s b => f b s) s0)) hp hc (W := W) hi (fun i => hW _) h0 hg tgk (by rw [List.length_map]; exact Nat.le_refl _) (fun i d hi' hd => ?_) (.inl ⟨by rw [List.length_map], by rw [fin]⟩) hs
  rw [List.getElem?_map] at hd
  cases eb : bs[i]? with
  | none =>
    rw [eb] at hd
    cases hd
  | some b =>
    rw [eb] at hd
    cases hd
    obtain ⟨δ', h1, _, h3⟩ := turn i b _ eb (inv i (by omega))
    rw [step i b eb]
    exact ⟨δ', h1, h3⟩
end
end Dx
set_option Elab.async false
set_option linter.all false
set_option maxRecDepth 100000
set_option maxHeartbeats 4000000
namespace Dx
open PySem PySem.Spec PyProof.Rows L2
section
variable {X : Cx} {M : AS} {A B C G : As} {δ δ' : LS} {pos p p2 apos cpos : Pos} {x y z d : D} {a b e e1 e2 o tg iter : Expr} {items : List D}
theorem e_neg {i : Int} (h : PE X e (tC X.K M A δ B (.int i))) : PE X (.UnaryOp .USub e pos) (tC X.K M A δ B (.int (-i))) := pe_imp (pe_un un_neg h) fun σ H Q ⟨s, q⟩ => ⟨s, fun v H1 k1 b1 r1 => by
  cases r1
  exact ⟨i, rfl, q _ H1 k1 b1 (.int _)⟩⟩
/-- {'k': e1, 'l': e2}, two texts -/
theorem g_disp2 {k1 k2 : Str} {w1 w2 : Str} {j1 j2} {q1 q2 : Pos} (h1 : ∀ R : As, PE X e1 (tC X.K M (A.and R) δ (A.and R) (.str w1))) (h2 : ∀ R : As, PE X e2 (tC X.K M (A.and R) δ (A.and R) (.str w2))) :
    PE X (.Dict [some (.Constant (.str k1) j1 q1), some (.Constant (.str k2) j2 q2)] [e1, e2] pos) (tCG X.K M A δ (fun g => A.and (tabA X.K (g 0) (putT (putT [] k1 (.str w1)) k2 (.str w2)))) (fun g => .ref (g 0))) := by
  have hany : ∀ e, PE X e (fun σ H Q => ∃ t, PE X e t ∧ t σ H Q) := fun e => ⟨fun pins s σ H Q I ⟨t, h, q⟩ => h.run pins s σ H Q I q⟩
  refine pe_imp (pe_disp (pps_cons pe_str (hany e1) (pps_cons pe_str (hany e2) pps_nil)) rfl rfl (fun z => by cases z) (by show 2 ≤ 15; decide)) fun σ H Q ⟨s, q⟩ => fun p hp => ?_
  have s1 : St0 X.K M (A.and (objA p (.dK []))) δ σ (upd H p (.dK [])) := s.kp (.new hp) ⟨A.mono (Same.new hp) s.a, upd_same⟩
  refine ⟨_, h1 (objA p (.dK [])), s1, fun v H1 k1 b1 r1 => ?_⟩
  refine ⟨_, h2 (objA p (.dK [])), s1.kp k1 b1, fun v2 H2 k2 b2 r2 => ?_⟩
  have rv1 := r1.str_inv
  have rv2 := r2.str_inv
  subst rv1 rv2
  refine ⟨b2.2, [(Sum.inr _, .str w1), (Sum.inr _, .str w2)], rfl, by show 2 ≤ 15; decide, ?_⟩
  have fr : ∀ u, Fr (fun a => a ≠ p) H2 (upd H2 p u) := fun u => .upd b2.2 (fun _ z => by cases z) fun z => z rfl
  have nL : ¬ A.L p := fun z => A.trk s.a z hp
  exact q (fun _ => p) _ _ (fun _ => hp) ((((Kp.new hp).trans k1).trans k2).trans (.upd b2.2 (fun _ z => by cases z) (.inr fun _ z => by cases z)))
    ⟨A.fr ((fr _).less fun a l z => nL (z ▸ l)) b2.1, _, upd_same, KvR.put (.str w2) rfl (KvR.put (.str w1) rfl .nil)⟩ (.ref p)
/-- o.get(k, x), o a dict made for this -/
theorem e_ggetD {n : Str} {es : List (Str × D)} {f : Expr} (hu : X.A.units + 1 < cLine) (ho : PE X o (tCG X.K M A δ (fun g => A.and (tabA X.K (g 0) es)) (fun g => .ref (g 0)))) (hk : ∀ R : As, PE X e (tC X.K M (A.and R) δ (A.and R) (.str n))) (hf : ∀ R : As, PE X f (tC X.K M (A.and R) δ (A.and R) x)) (m : M2 X o "get" apos e f cpos) :
    PE X (.Call (.Attribute o "get" apos) [e, f] [] cpos) (tC X.K M A δ A ((es.lookup n).getD x)) := by
  have hany : ∀ e, PE X e (fun σ H Q => ∃ t, PE X e t ∧ t σ H Q) := fun e => ⟨fun pins s σ H Q I ⟨t, h, q⟩ => h.run pins s σ H Q I q⟩
  refine pe_imp (pe_dget2 hu ho (hany e) (hany f) m) fun σ H Q ⟨s, q⟩ => ⟨s, fun g v H1 n1 k1 b1 r1 => ?_⟩
  have r1 := r1.ref_inv
  subst r1
  obtain ⟨kvs, h1, h2⟩ := b1.2
  refine ⟨_, rfl, .inl ⟨kvs, .inl h1⟩, _, hk (tabA X.K (g 0) es), s.kp k1 b1, fun y H2 k2 b2 r2 => ⟨_, hf (tabA X.K (g 0) es), (s.kp k1 b1).kp k2 b2, fun z H3 k3 b3 r3 => ?_⟩⟩
  have r2 := r2.str_inv
  subst r2
  obtain ⟨kvs, h1, h2⟩ := b3.2
  refine ⟨_, DGet.k (k := Sum.inr n) h1, ?_⟩
  cases el : es.lookup n with
  | none =>
    rw [h2.getN el]
    rw [el] at q
    exact q _ H3 ((k1.trans k2).trans k3) b3.1 r3
  | some dd =>
    obtain ⟨u, e1, e2, _⟩ := h2.get (M := M) el
    rw [e1]
    rw [el] at q
    exact q _ H3 ((k1.trans k2).trans k3) b3.1 e2
/-- if c: t (that returns), then the rest -/
theorem ss_if {c : Expr} {t rest : List Stmt} {k : Bool} {Es : As} (hc : PT X c (tCT X.K M A δ B k)) (ht : k = true → PSs X t (tO X.K M B δ (.rt Es d))) (hf : k = false → PSs X rest (tO X.K M B δ (.rt Es d))) : PSs X (.If c t [] pos :: rest) (tO X.K M A δ (.rt Es d)) := by
  cases k with
  | true => exact ss_stop (s_ifT hc (ht rfl))
  | false => exact ss_cons (s_ifF hc) (hf rfl)
theorem ss_ifx {c : Expr} {t rest : List Stmt} {k : Bool} {o : Gh → Out} (hc : PT X c (tCT X.K M A δ B k)) (ht : k = true → PSs X t (tO X.K M B δ (.all o))) (hr : ∀ g, (∃ Es d, o g = .rt Es d)) (hf : k = false → PSs X rest (tO X.K M B δ (.all o))) : PSs X (.If c t [] pos :: rest) (tO X.K M A δ (.all o)) := by
  cases k with
  | true => exact pss_imp (pss_cons (s_ifT hc (ht rfl)) pss_never) fun E σ H ⟨s, q⟩ => ⟨s, fun g n => by
      obtain ⟨Es, d, e⟩ := hr g
      have q' := q g n
      rw [e] at q' ⊢
      exact q'⟩
  | false => exact ss_cons (s_ifF hc) (hf rfl)
/-- for some of the new things -/
theorem ss_pick {sts : List Stmt} {o : Gh → Out} (H0 : Hp) (g : Gh) (n : ∀ i, H0 (g i) = none) (h : PSs X sts (tO X.K M A δ (o g))) (hA : ∀ H, A.p H → ∀ i, H (g i) ≠ none → True) : PSs X sts (tO X.K M A δ (o g)) := h
end
end Dx
namespace RQ
open PySem PySem.Spec PyProof.Rows L2 Dx
/-! ### rows of the queue -/
structure QRow where
  own : Own
  place : Str
  time : Option Int
  tries : Int
  token : Int
  effects : Int
  last : Option Int
def oI : Option Int → D
  | none => .non
  | some i => .int i
def rowD (r : QRow) : D := .tup [ownD r.own, .str r.place, oI r.time, .int r.tries, .int r.token, .int r.effects, oI r.last]
/-- is_integer of what numW gives -/
def limW (x : Str) : Option Int := if Txt.isdigit x = true then some ((PySem.intText? x).getD 0) else none
theorem numW_lim (x : Str) : numW x = match limW x with
  | some n => .int n
  | none => .str x := by
  unfold numW limW
  by_cases h : Txt.isdigit x = true
  · rw [if_pos h, if_pos h]
  · rw [if_neg h, if_neg h]
def stopsM (S : Cfg) (tries : Int) : Bool := match limW (sg S "tries") with
  | some n => decide (n ≤ tries)
  | none => false
def pauseM (S : Cfg) (tries : Int) : Int := if 1 < tries then (pauseL S).getLastD 0 else (pauseL S).headD 0
def fallenM (S : Cfg) (r : QRow) (when : Int) : QRow := if stopsM S r.tries = true then { r with place := "dead", time := none } else { r with place := "ready", time := some (when + pauseM S r.tries) }
def settledM (S : Cfg) (now : Int) (r : QRow) : QRow := match r.time with
  | some t => if r.place = "held" ∧ t ≤ now then fallenM S r t else r
  | none => r
theorem oI_non {K : PySem.W.Frag} {M : AS} {H : Hp} {o : Option Int} {v : V} (r : Rp K M H v (oI o)) : decide (v = .non) = o.isNone := by
  cases o with
  | none => cases r; rfl
  | some i => cases r; rfl
theorem ownD_flat (o : Own) : flatD (ownD o) = true := by
  unfold ownD oD
  cases o.origin <;> rfl
theorem rowD_flat (r : QRow) : flatD (rowD r) = true := by
  unfold rowD
  have : flatD (ownD r.own) = true := ownD_flat _
  cases r.time <;> cases r.last <;> simp [flatD, flatL, oI, this]
theorem atI_neg1 {α : Type} {xs : List α} {v : α} (h : xs.getLast? = some v) : atI xs (-1) = some v := by
  have : xs ≠ [] := by
    intro e
    subst e
    simp at h
  have e0 := List.dropLast_concat_getLast this
  rw [← e0] at h ⊢
  have e : xs.getLast this = v := by simpa using h
  rw [e]
  exact atI_last _ _
section
variable {P : Program} {w : World} {K : PySem.W.Frag} {mg : Str → Option Value} {base : Heap}
/-! ### fallen -/
theorem sc_fallen : FnScope ["setting", "row", "when", "own", "place", "time", "tries", "token", "effects", "last", "pause"] ["setting", "row", "when"] (defScope s_fallen) := ⟨rfl, rfl, rfl, by decide +kernel, rfl, by decide +kernel, by decide +kernel⟩
def preFallen (K : PySem.W.Frag) : Hp → List D → D → Prop := fun H ds d => ∃ (a : Addr) (S : Cfg) (r : QRow) (when : Int), ds = [.ref a, rowD r, .int when] ∧ SetAt K H a S ∧ SOk S ∧ d = rowD (fallenM S r when)
theorem preFallen_mono (H H' : Hp) (ds : List D) (d : D) (e : Same H H') (h : preFallen K H ds d) : preFallen K H' ds d := let ⟨a, S, r, n, h1, h2, h3⟩ := h; ⟨a, S, r, n, h1, h2.same e, h3⟩
def f7 : D → LS → Option LS := fTup (fCons (fOne 3) (fCons (fOne 4) (fCons (fOne 5) (fCons (fOne 6) (fCons (fOne 7) (fCons (fOne 8) (fCons (fOne 9) fNil)))))))
theorem tg7 {K : PySem.W.Frag} : TgOk K (gTup K 7 (gCons (gName 3) (gCons (gName 4) (gCons (gName 5) (gCons (gName 6) (gCons (gName 7) (gCons (gName 8) (gCons (gName 9) gNil)))))))) ([3] ++ ([4] ++ ([5] ++ ([6] ++ ([7] ++ ([8] ++ ([9] ++ []))))))) f7 :=
  tg_tup (tgs_cons (tg_name 3) (tgs_cons (tg_name 4) (tgs_cons (tg_name 5) (tgs_cons (tg_name 6) (tgs_cons (tg_name 7) (tgs_cons (tg_name 8) (tgs_cons (tg_name 9) tgs_nil))))))) fun ds δ δ' e => by
    match ds, e with
    | [_, _, _, _, _, _, _], _ => rfl
    | [], e => cases e
    | [_], e => cases e
    | [_, _], e => cases e
    | [_, _, _], e => cases e
    | [_, _, _, _], e => cases e
    | [_, _, _, _, _], e => cases e
    | [_, _, _, _, _, _], e => cases e
    | _ :: _ :: _ :: _ :: _ :: _ :: _ :: _ :: _, e => cases e
theorem pauseL_ne {S : Cfg} (ok : SOk S) : pauseL S ≠ [] := by
  obtain ⟨v, h1, h2⟩ := ok.pause
  unfold pauseL
  rw [sg_of h1]
  exact fun z => h2.some_ (List.map_eq_nil_iff.mp z)
theorem SetAt.ins {H : Hp} {a : Addr} {S : Cfg} (h : SetAt K H a S) : ∃ dx fs, H a = some (.ins (atG "Setting" K) dx fs) := let ⟨dx, t, h1, _⟩ := h; ⟨dx, _, h1⟩
theorem isInt_ok {H0 : Hp} {M : AS} {x : Str} : SpOk K M (spF K preIsInt) (As.same H0) [numW x] (As.same H0) (.bl (limW x).isSome) := by
  refine spF_ok fun H' _ => ?_
  rw [numW_lim]
  cases limW x with
  | none => exact ⟨_, "str", rfl, .str _, rfl⟩
  | some n => exact ⟨_, "int", rfl, .int _, rfl⟩
theorem h_fallen (T : Txt K mg) : Has P w K mg base 4 (atG "fallen" K) ["setting", "row", "when"] (spF K (preFallen K)) := by
  obtain ⟨fd, F⟩ := f_fallen T
  refine ⟨fd, okF F sc_fallen (fun H ds d h => ?_) preFallen_mono fun cdv A outer s H E M ds d hr h => ?_, F.bindsN fun _ _ _ _ _ _ us hl => match us, hl with | [_, _, _], _ => rfl, F.kp⟩
  · obtain ⟨_, _, _, _, rfl, _⟩ := h
    rfl
  · obtain ⟨a, S, r, when, rfl, hS, ok, rfl⟩ := h
    refine ⟨.rt (As.same H) _, ⟨fun _ h => h, rfl⟩, ?_⟩
    refine ss_cons (s_asg (e_var 1) (pg_tup rfl (pgs_cons (pg_name (i := 3) sc_fallen.nd rfl (Or.inl rfl)) (pgs_cons (pg_name (i := 4) sc_fallen.nd rfl (Or.inl rfl)) (pgs_cons (pg_name (i := 5) sc_fallen.nd rfl (Or.inl rfl)) (pgs_cons (pg_name (i := 6) sc_fallen.nd rfl (Or.inl rfl)) (pgs_cons (pg_name (i := 7) sc_fallen.nd rfl (Or.inl rfl)) (pgs_cons (pg_name (i := 8) sc_fallen.nd rfl (Or.inl rfl)) (pgs_cons (pg_name (i := 9) sc_fallen.nd rfl (Or.inl rfl)) pgs_nil)))))))) tg7 rfl) ?_
    refine ss_if (k := stopsM S r.tries) ?c (fun hst => ss_one (s_ret (e_is (e_tup (a_cons (e_var 3) (a_cons e_str (a_cons e_non (a_cons (e_var 6) (a_cons (e_var 7) (a_cons (e_var 8) (a_one (e_var 9))))))))) ?e1))) fun hst =>
      ss_cons (s_set 10 sc_fallen.nd (e_is (d' := .int (pauseM S r.tries)) (e_ifx (t_gt (e_var 6) e_int) (d := .int (pauseM S r.tries)) (fun hp => e_ixT (c_prop (cl_Setting T) (pr_pause T) (h_pause T) (hr.mono (by decide)) (e_var 0) (fun H' e => (hS.same e).ins) (spF_ok fun H' e => ⟨a, S, rfl, hS.same e, ok, rfl⟩)) (e_neg e_int) ?i1)
        (fun hp => e_ixT (c_prop (cl_Setting T) (pr_pause T) (h_pause T) (hr.mono (by decide)) (e_var 0) (fun H' e => (hS.same e).ins) (spF_ok fun H' e => ⟨a, S, rfl, hS.same e, ok, rfl⟩)) e_int ?i2)) rfl))
        (ss_one (s_ret (e_is (e_tup (a_cons (e_var 3) (a_cons e_str (a_cons (e_add (e_var 2) (e_var 10)) (a_cons (e_var 6) (a_cons (e_var 7) (a_cons (e_var 8) (a_one (e_var 9))))))))) ?e2)))
    case c =>
      cases hl : limW (sg S "tries") with
      | none =>
        refine t_is (t_and (k := false) (j := true) (t_val (e_is (c_call (h_is_integer T) (hr.mono (by decide)) (g_is_integer T) (a_one (c_prop (cl_Setting T) (pr_tries T) (h_tries T) (hr.mono (by decide)) (e_var 0) (fun H' e => (hS.same e).ins) (spF_ok fun H' e => ⟨a, S, rfl, hS.same e, ok, rfl⟩))) isInt_ok) (by rw [hl] <;> rfl))) fun h => by cases h) ?_
        unfold stopsM
        rw [hl] <;> rfl
      | some n =>
        refine t_is (t_and (k := true) (t_val (e_is (c_call (h_is_integer T) (hr.mono (by decide)) (g_is_integer T) (a_one (c_prop (cl_Setting T) (pr_tries T) (h_tries T) (hr.mono (by decide)) (e_var 0) (fun H' e => (hS.same e).ins) (spF_ok fun H' e => ⟨a, S, rfl, hS.same e, ok, rfl⟩))) isInt_ok) (by rw [hl] <;> rfl))) fun _ =>
          t_ge (j := n) (e_var 6) (e_is (c_prop (cl_Setting T) (pr_tries T) (h_tries T) (hr.mono (by decide)) (e_var 0) (fun H' e => (hS.same e).ins) (spF_ok fun H' e => ⟨a, S, rfl, hS.same e, ok, rfl⟩)) (by show numW _ = _; rw [numW_lim, hl]))) ?_
        unfold stopsM
        rw [hl] <;> rfl
    case e1 =>
      unfold fallenM
      rw [if_pos hst] <;> rfl
    case e2 =>
      unfold fallenM
      rw [if_neg (by rw [hst]; decide)] <;> rfl
    case i1 =>
      refine atI_neg1 ?_
      unfold pauseM
      rw [if_pos (of_decide_eq_true hp), List.getLast?_map]
      cases e : (pauseL S).getLast? with
      | none => exact absurd (List.getLast?_eq_none_iff.mp e) (pauseL_ne ok)
      | some n => rw [List.getLastD_eq_getLast?, e] <;> rfl
    case i2 =>
      unfold pauseM
      rw [if_neg (of_decide_eq_false hp)]
      cases e : pauseL S with
      | nil => exact absurd e (pauseL_ne ok)
      | cons n ns => exact atI_nat (j := 0) rfl
/-! ### settled -/
theorem sc_settled : FnScope ["setting", "row", "now"] ["setting", "row", "now"] (defScope s_settled) := ⟨rfl, rfl, rfl, by decide +kernel, rfl, by decide +kernel, by decide +kernel⟩
def preSettled (K : PySem.W.Frag) : Hp → List D → D → Prop := fun H ds d => ∃ (a : Addr) (S : Cfg) (r : QRow) (now : Int), ds = [.ref a, rowD r, .int now] ∧ SetAt K H a S ∧ SOk S ∧ d = rowD (settledM S now r)
theorem preSettled_mono (H H' : Hp) (ds : List D) (d : D) (e : Same H H') (h : preSettled K H ds d) : preSettled K H' ds d := let ⟨a, S, r, n, h1, h2, h3⟩ := h; ⟨a, S, r, n, h1, h2.same e, h3⟩
theorem h_settled (T : Txt K mg) : Has P w K mg base 5 (atG "settled" K) ["setting", "row", "now"] (spF K (preSettled K)) := by
  obtain ⟨fd, F⟩ := f_settled T
  refine ⟨fd, okF F sc_settled (fun H ds d h => ?_) preSettled_mono fun cdv A outer s H E M ds d hr h => ?_, F.bindsN fun _ _ _ _ _ _ us hl => match us, hl with | [_, _, _], _ => rfl, F.kp⟩
  · obtain ⟨_, _, _, _, rfl, _⟩ := h
    rfl
  · obtain ⟨a, S, r, now, rfl, hS, ok, rfl⟩ := h
    refine ⟨.rt (As.same H) _, ⟨fun _ h => h, rfl⟩, ?_⟩
    cases ht : r.time with
    | none =>
      have e0 : rowD (settledM S now r) = rowD r := by
        unfold settledM
        rw [ht]
      refine ss_if (k := false) (t_is ((w_and (t_eqS (e_ixT (e_var 1) e_int (d := .str r.place) rfl) e_str) (fun _ => w_and (j := true) (t_notN (k := true) (e_ixT (e_var 1) e_int (d := .non) (by rw [ht] <;> rfl)) (fun K H v r => by cases r; rfl)) (fun h => by cases h) fun _ _ h => h) (fun _ _ h => h)).pt) (by simp)) (fun h => by cases h) fun _ => ss_one (s_ret (e_is (e_var 1) e0.symm))
    | some t =>
      refine ss_if (k := decide (r.place = "held") && decide (t ≤ now)) (t_is ((w_and (t_eqS (e_ixT (e_var 1) e_int (d := .str r.place) rfl) e_str) (fun _ => w_and (t_notN (k := false) (e_ixT (e_var 1) e_int (d := .int t) (by rw [ht] <;> rfl)) (fun K H v r => by cases r; rfl)) (fun _ => w_and1 (t_le (e_ixT (e_var 1) e_int (d := .int t) (by rw [ht] <;> rfl)) (e_var 2))) fun _ _ h => h) (fun _ _ h => h)).pt) (by simp))
        (fun h => ss_one (s_ret (e_is (c_call (h_fallen T) hr (g_fallen T) (a_cons (e_var 0) (a_cons (e_var 1) (a_one (e_ixT (e_var 1) e_int (d := .int t) (by rw [ht] <;> rfl))))) (spF_ok fun H' e => ⟨a, S, r, t, rfl, hS.same e, ok, rfl⟩)) ?_))) fun h => ss_one (s_ret (e_is (e_var 1) ?_))
      · unfold settledM
        rw [ht]
        obtain ⟨h1, h2⟩ := Bool.and_eq_true_iff.mp h
        show _ = rowD (if r.place = "held" ∧ t ≤ now then _ else _)
        rw [if_pos ⟨of_decide_eq_true h1, of_decide_eq_true h2⟩]
      · unfold settledM
        rw [ht]
        show _ = rowD (if r.place = "held" ∧ t ≤ now then _ else _)
        rw [if_neg (fun z => by rw [decide_eq_true z.1, decide_eq_true z.2] at h; cases h)]
/-! ### word_for -/
def wordM (now : Int) (r : QRow) : Str := if r.place = "ready" then (if r.time.getD 0 ≤ now then "free" else "busy") else if r.place = "held" then "busy" else if r.place = "dead" then "dead" else "away"
def RowOk (r : QRow) : Prop := r.place = "ready" → ∃ t, r.time = some t
theorem sc_word_for : FnScope ["row", "now"] ["row", "now"] (defScope s_word_for) := ⟨rfl, rfl, rfl, by decide +kernel, rfl, by decide +kernel, by decide +kernel⟩
def preWord : Hp → List D → D → Prop := fun H ds d => ∃ (r : QRow) (now : Int), ds = [rowD r, .int now] ∧ RowOk r ∧ d = .str (wordM now r)
theorem h_word_for (T : Txt K mg) : Has P w K mg base 1 (atG "word_for" K) ["row", "now"] (spF K preWord) := by
  obtain ⟨fd, F⟩ := f_word_for T
  refine ⟨fd, okF F sc_word_for (fun H ds d h => ?_) (fun H H' ds d _ h => h) fun cdv A outer s H E M ds d hr h => ?_, F.bindsN fun _ _ _ _ _ _ us hl => match us, hl with | [_, _], _ => rfl, F.kp⟩
  · obtain ⟨_, _, rfl, _⟩ := h
    rfl
  · obtain ⟨r, now, rfl, ok, rfl⟩ := h
    refine ⟨.rt (As.same H) _, ⟨fun _ h => h, rfl⟩, ?_⟩
    refine ss_if (k := decide (r.place = "ready")) (t_eqS (e_ixT (e_var 0) e_int (d := .str r.place) rfl) e_str) (fun h => ?_) fun h => ss_one (s_ret (e_is (e_ggetD (x := .str "away") (es := putT (putT [] "held" (.str "busy")) "dead" (.str "dead")) (hu_of hr) (g_disp2 (fun R => e_const (s_BUSY T)) (fun R => e_const (s_DEAD T))) (fun R => e_ixT (e_var 0) e_int (d := .str r.place) rfl) (fun R => e_const (s_AWAY T)) ⟨rfl, rfl, rfl, rfl⟩) ?_))
    · obtain ⟨t, ht⟩ := ok (of_decide_eq_true h)
      refine ss_one (s_ret (e_ifx (t_le (e_ixT (e_var 0) e_int (d := .int t) (by rw [ht] <;> rfl)) (e_var 1)) (fun h2 => e_is (e_const (s_FREE T)) ?_) fun h2 => e_is (e_const (s_BUSY T)) ?_))
      · unfold wordM
        rw [if_pos (of_decide_eq_true h), ht]
        show _ = D.str (if t ≤ now then _ else _)
        rw [if_pos (of_decide_eq_true h2)]
      · unfold wordM
        rw [if_pos (of_decide_eq_true h), ht]
        show _ = D.str (if t ≤ now then _ else _)
        rw [if_neg (of_decide_eq_false h2)]
    · have e0 : putT (putT [] "held" (.str "busy")) "dead" (.str "dead") = [(("held" : Str), D.str "busy"), (("dead" : Str), D.str "dead")] := by
        unfold putT
        rfl
      rw [e0]
      unfold wordM
      rw [if_neg (of_decide_eq_false h)]
      by_cases h1 : r.place = "held"
      · rw [h1, if_pos rfl] <;> rfl
      · rw [if_neg h1]
        by_cases h2 : r.place = "dead"
        · rw [h2, if_pos rfl] <;> rfl
        · rw [if_neg h2, List.lookup_cons, beq_eq_false_iff_ne.mpr h1]
          show Option.getD (List.lookup r.place [(("dead" : Str), D.str "dead")]) _ = _
          rw [List.lookup_cons, beq_eq_false_iff_ne.mpr h2] <;> rfl
/-! ### is_remembered -/
def rememberedM (S : Cfg) (r : QRow) (now : Int) : Bool := if sg S "once" = "ever" then decide (0 < r.effects) else match limW (sg S "once"), r.last with
  | some n, some l => decide (now < l + n)
  | _, _ => false
theorem sc_is_remembered : FnScope ["setting", "row", "now"] ["setting", "row", "now"] (defScope s_is_remembered) := ⟨rfl, rfl, rfl, by decide +kernel, rfl, by decide +kernel, by decide +kernel⟩
def preRem (K : PySem.W.Frag) : Hp → List D → D → Prop := fun H ds d => ∃ (a : Addr) (S : Cfg) (r : QRow) (now : Int), ds = [.ref a, rowD r, .int now] ∧ SetAt K H a S ∧ SOk S ∧ d = .bl (rememberedM S r now)
theorem preRem_mono (H H' : Hp) (ds : List D) (d : D) (e : Same H H') (h : preRem K H ds d) : preRem K H' ds d := let ⟨a, S, r, n, h1, h2, h3⟩ := h; ⟨a, S, r, n, h1, h2.same e, h3⟩
theorem h_is_remembered (T : Txt K mg) : Has P w K mg base 4 (atG "is_remembered" K) ["setting", "row", "now"] (spF K (preRem K)) := by
  obtain ⟨fd, F⟩ := f_is_remembered T
  refine ⟨fd, okF F sc_is_remembered (fun H ds d h => ?_) preRem_mono fun cdv A outer s H E M ds d hr h => ?_, F.bindsN fun _ _ _ _ _ _ us hl => match us, hl with | [_, _, _], _ => rfl, F.kp⟩
  · obtain ⟨_, _, _, _, rfl, _⟩ := h
    rfl
  · obtain ⟨a, S, r, now, rfl, hS, ok, rfl⟩ := h
    refine ⟨.rt (As.same H) _, ⟨fun _ h => h, rfl⟩, ?_⟩
    have hd : Txt.isdigit ("ever" : Str) = false := by decide +kernel
    refine ss_if (k := decide (sg S "once" = "ever")) ?c (fun h => ss_one (s_ret (e_is (e_gt (e_ixT (e_var 1) e_int (d := .int r.effects) rfl) e_int) ?e1))) fun h => ss_one (s_ret ?r)
    case c =>
      cases hl : limW (sg S "once") with
      | none =>
        refine t_eqX (x := .str (sg S "once")) (e_is (c_prop (cl_Setting T) (pr_once T) (h_once T) (hr.mono (by decide)) (e_var 0) (fun H' e => (hS.same e).ins) (spF_ok fun H' e => ⟨a, S, rfl, hS.same e, ok, rfl⟩)) (by show numW _ = _; rw [numW_lim, hl])) e_str (.str _) (.str _) rfl dec_s
      | some n =>
        refine t_eqX (x := .int n) (e_is (c_prop (cl_Setting T) (pr_once T) (h_once T) (hr.mono (by decide)) (e_var 0) (fun H' e => (hS.same e).ins) (spF_ok fun H' e => ⟨a, S, rfl, hS.same e, ok, rfl⟩)) (by show numW _ = _; rw [numW_lim, hl])) e_str (.int _) (.str _) rfl ?_
        rw [decide_eq_false (fun z => by cases z), decide_eq_false]
        intro z
        unfold limW at hl
        rw [z, if_neg (by rw [hd]; decide)] at hl
        cases hl
    case e1 =>
      unfold rememberedM
      rw [if_pos (of_decide_eq_true h)]
    case r =>
      have e0 : rememberedM S r now = match limW (sg S "once"), r.last with
          | some n, some l => decide (now < l + n)
          | _, _ => false := by
        unfold rememberedM
        rw [if_neg (of_decide_eq_false h)]
      rw [e0]
      cases hl : limW (sg S "once") with
      | none =>
        exact e_and (k := false) (e_is (c_call (h_is_integer T) (hr.mono (by decide)) (g_is_integer T) (a_one (c_prop (cl_Setting T) (pr_once T) (h_once T) (hr.mono (by decide)) (e_var 0) (fun H' e => (hS.same e).ins) (spF_ok fun H' e => ⟨a, S, rfl, hS.same e, ok, rfl⟩))) isInt_ok) (by rw [hl] <;> rfl)) (fun h => by cases h) fun _ => ⟨by cases r.last <;> rfl, fun _ h => h⟩
      | some n =>
        refine e_and (k := true) (e_is (c_call (h_is_integer T) (hr.mono (by decide)) (g_is_integer T) (a_one (c_prop (cl_Setting T) (pr_once T) (h_once T) (hr.mono (by decide)) (e_var 0) (fun H' e => (hS.same e).ins) (spF_ok fun H' e => ⟨a, S, rfl, hS.same e, ok, rfl⟩))) isInt_ok) (by rw [hl] <;> rfl)) (fun _ => ?_) fun h => by cases h
        cases hla : r.last with
        | none =>
          exact e_and (k := false) (e_is (e_notN (k := true) (e_ixT (e_var 1) e_int (d := .non) (by rw [hla] <;> rfl)) (fun K H v r => by cases r; rfl)) rfl) (fun h => by cases h) fun _ => ⟨rfl, fun _ h => h⟩
        | some l =>
          exact e_and (k := true) (e_is (e_notN (k := false) (e_ixT (e_var 1) e_int (d := .int l) (by rw [hla] <;> rfl)) (fun K H v r => by cases r; rfl)) rfl) (fun _ => e_one (e_lt (e_var 2) (e_add (e_ixT (e_var 1) e_int (d := .int l) (by rw [hla] <;> rfl)) (e_is (c_prop (cl_Setting T) (pr_once T) (h_once T) (hr.mono (by decide)) (e_var 0) (fun H' e => (hS.same e).ins) (spF_ok fun H' e => ⟨a, S, rfl, hS.same e, ok, rfl⟩)) (by show numW _ = _; rw [numW_lim, hl]))))) fun h => by cases h
/-! ### taken_names -/
def fWord (now : Int) : D → D
  | .tup [_, .str p, t, _, _, _, _] => .str (wordM now ⟨⟨Str.empty, 0, none⟩, p, (match t with
    | .int i => some i
    | _ => none), 0, 0, 0, none⟩)
  | _ => .non
theorem fWord_row (now : Int) (r : QRow) : fWord now (rowD r) = .str (wordM now r) := by
  obtain ⟨own, place, time, tries, token, effects, last⟩ := r
  cases time <;> rfl
abbrev Tab := List (Str × QRow)
def tabD (t : Tab) : List (Str × D) := t.map fun e => (e.1, rowD e.2)
noncomputable def takenM (S : Cfg) (t : Tab) (now many : Int) : List Str := (batchM S (t.map fun e => e.2.own) (t.map fun e => wordM now e.2) many).map fun i => (t.map (·.1)).getD i.toNat Str.empty
theorem foldB_inv {α β : Type} {f : β → α → α ⊕ α} (P : α → Prop) : ∀ (bs : List β) (s : α), P s → (∀ b ∈ bs, ∀ s, P s → Sum.elim P P (f b s)) → P (foldB f bs s)
  | [], s, h, _ => h
  | b :: bs, s, h, t => by
    have tb := t b (by simp) s h
    unfold foldB
    cases e : f b s with
    | inl s' =>
      rw [e] at tb
      exact foldB_inv P bs s' tb fun c hc => t c (by simp [hc])
    | inr s' =>
      rw [e] at tb
      exact tb
theorem batchM_mem {S : Cfg} {rows : List Own} {view : List Str} {many i : Int} (h : i ∈ batchM S rows view many) : ∃ k : Nat, k < rows.length ∧ i = (k : Int) := by
  have key := foldB_inv (f := batchStep S rows many) (fun s => ∀ j ∈ s.2, ∃ k : Nat, k < rows.length ∧ j = (k : Int)) (orderedM rows (sg S "order")) (view, []) (fun j hj => by simp at hj) fun b hb s hs => ?_
  · exact key i h
  · obtain ⟨k, hk, rfl⟩ := orderedM_mem hb
    unfold batchStep
    have hs' : ∀ j ∈ s.2 ++ [(k : Int)], ∃ k : Nat, k < rows.length ∧ j = (k : Int) := fun j hj => by
      rcases List.mem_append.mp hj with h1 | h1
      · exact hs j h1
      · exact ⟨k, hk, List.mem_singleton.mp h1⟩
    have fin : ∀ t : List Str × List Int, (∀ j ∈ t.2, ∃ k : Nat, k < rows.length ∧ j = (k : Int)) → Sum.elim (fun s : List Str × List Int => ∀ j ∈ s.2, ∃ k : Nat, k < rows.length ∧ j = (k : Int)) (fun s : List Str × List Int => ∀ j ∈ s.2, ∃ k : Nat, k < rows.length ∧ j = (k : Int)) (endIf many t) := by
      intro t ht
      unfold endIf
      by_cases h : (t.2.length : Int) = many
      · rw [if_pos h]; exact ht
      · rw [if_neg h]; exact ht
    by_cases c1 : (decide (s.1.getD ((k : Int)).toNat Str.empty = "free") && !barredM S rows s.1 ((k : Int)).toNat ((rows.map Own.key).getD ((k : Int)).toNat Str.empty)) = true
    · rw [if_pos c1]
      exact fin (s.1.set ((k : Int)).toNat "busy", s.2 ++ [(k : Int)]) hs'
    · rw [if_neg c1]
      by_cases c2 : (isOpenM (s.1.getD ((k : Int)).toNat Str.empty) && !decide (sg S "skip" = "yes")) = true
      · rw [if_pos c2]
        exact hs
      · rw [if_neg c2]
        exact fin s hs
theorem batchM_len {S : Cfg} {rows : List Own} {view : List Str} {many : Int} : (batchM S rows view many).length ≤ rows.length := by
  have ol : ∀ o, (orderedM rows o).length = rows.length := by
    intro o
    unfold orderedM
    by_cases h : o = "weight"
    · rw [if_pos h, List.length_map, (sortP_perm _).length_eq, pairsM_len]
    · rw [if_neg h, List.length_map, List.length_range]
  have key : ∀ (bs : List Int) (s : List Str × List Int), (foldB (batchStep S rows many) bs s).2.length ≤ s.2.length + bs.length := by
    intro bs
    induction bs with
    | nil => intro s; exact Nat.le_refl _
    | cons b bs ih =>
      intro s
      have hf : match batchStep S rows many b s with
          | .inl s' => s'.2.length ≤ s.2.length + 1
          | .inr s' => s'.2.length ≤ s.2.length + 1 := by
        unfold batchStep
        have fin : ∀ t : List Str × List Int, t.2.length ≤ s.2.length + 1 → match endIf many t with
            | .inl s' => s'.2.length ≤ s.2.length + 1
            | .inr s' => s'.2.length ≤ s.2.length + 1 := by
          intro t ht
          unfold endIf
          by_cases h : (t.2.length : Int) = many
          · rw [if_pos h]; exact ht
          · rw [if_neg h]; exact ht
        by_cases c1 : (decide (s.1.getD b.toNat Str.empty = "free") && !barredM S rows s.1 b.toNat ((rows.map Own.key).getD b.toNat Str.empty)) = true
        · rw [if_pos c1]
          exact fin _ (by rw [List.length_append]; exact Nat.le_refl _)
        · rw [if_neg c1]
          by_cases c2 : (isOpenM (s.1.getD b.toNat Str.empty) && !decide (sg S "skip" = "yes")) = true
          · rw [if_pos c2]
            exact Nat.le_succ _
          · rw [if_neg c2]
            exact fin s (Nat.le_succ _)
      unfold foldB
      cases e : batchStep S rows many b s with
      | inl s' =>
        rw [e] at hf
        have hf : s'.2.length ≤ s.2.length + 1 := hf
        have := ih s'
        rw [List.length_cons]
        show (foldB _ bs s').2.length ≤ _
        omega
      | inr s' =>
        rw [e] at hf
        have hf : s'.2.length ≤ s.2.length + 1 := hf
        rw [List.length_cons]
        show s'.2.length ≤ _
        omega
  have := key (orderedM rows (sg S "order")) (view, [])
  rw [ol] at this
  unfold batchM
  simpa using this
theorem tabD_len (t : Tab) : (tabD t).length = t.length := by unfold tabD; rw [List.length_map]
theorem tabD_keys (t : Tab) : (tabD t).map (·.1) = t.map (·.1) := by unfold tabD; rw [List.map_map]; rfl
theorem tabD_vals (t : Tab) : (tabD t).map (·.2) = t.map fun e => rowD e.2 := by unfold tabD; rw [List.map_map]; rfl
def preTaken (K : PySem.W.Frag) : Hp → List D → D → Prop := fun H ds d => ∃ (a q : Addr) (S : Cfg) (t : Tab) (now many : Int), ds = [.ref a, .ref q, .int now, .int many] ∧ SetAt K H a S ∧ SOk S ∧ (tabA K q (tabD t)).p H ∧ t.length ≤ 1000 ∧ (∀ e ∈ t, RowOk e.2) ∧
  d = .lst ((takenM S t now many).map D.str)
theorem preTaken_mono (H H' : Hp) (ds : List D) (d : D) (e : Same H H') (h : preTaken K H ds d) : preTaken K H' ds d := let ⟨a, q, S, t, n, m, h1, h2, h3, h4, h5⟩ := h; ⟨a, q, S, t, n, m, h1, h2.same e, h3, (tabA K q (tabD t)).mono e h4, h5⟩
theorem sc_taken_names : FnScope ["setting", "table", "now", "many", "names", "rows", "found", "row", "at"] ["setting", "table", "now", "many"] (defScope s_taken_names) := ⟨rfl, rfl, rfl, by decide +kernel, rfl, by decide +kernel, by decide +kernel⟩
theorem h_taken_names (T : Txt K mg) : Has P w K mg base 5 (atG "taken_names" K) ["setting", "table", "now", "many"] (spF K (preTaken K)) := by
  obtain ⟨fd, F⟩ := f_taken_names T
  refine ⟨fd, okF F sc_taken_names (fun H ds d h => ?_) preTaken_mono fun cdv A outer s H E M ds d hr h => ?_, F.bindsN fun _ _ _ _ _ _ us hl => match us, hl with | [_, _, _, _], _ => rfl, F.kp⟩
  · obtain ⟨_, _, _, _, _, _, rfl, _⟩ := h
    rfl
  · obtain ⟨a, q, S, t, now, many, rfl, hS, ok, hq, hz, hrow, rfl⟩ := h
    refine ⟨.rt (As.same H) _, ⟨fun _ h => h, rfl⟩, ?_⟩
    have hq' : ∀ H', (As.same H).p H' → (tabA K q (tabD t)).p H' := fun H' e => (tabA K q (tabD t)).mono e hq
    refine ss_cons (s_asg (e_tup (a_cons (e_tkeys rfl (n_list T) (e_var 1) hq') (a_one (e_tvals rfl (n_list T) (e_var 1) hq')))) (pg_tup rfl (pgs_cons (pg_name (i := 4) sc_taken_names.nd rfl (Or.inr rfl)) (pgs_cons (pg_name (i := 5) sc_taken_names.nd rfl (Or.inl rfl)) pgs_nil))) (tg_pair 4 5) rfl)
      (ss_cons (s_set 6 sc_taken_names.nd (c_call (h_batch T) hr (g_batch T) (a_cons (e_is (d' := .lst ((t.map fun e => e.2.own).map ownD)) (e_lcM (own := [("row", 7)]) (g := gName 7) (js := [7]) (f := fOne 7) (fun d => match d with
          | .tup (x :: _) => x
          | _ => .non) rfl sc_taken_names.nd (blkOk_by (N := ["setting", "table", "now", "many", "names", "rows", "found", "row", "at"]) (sc := defScope s_taken_names) (by decide +kernel)) (i_list (e_var 5)) (fun _ _ => trivial) (fun _ _ _ _ _ => pg_name (i := 7) sc_taken_names.nd rfl (Or.inl rfl)) (tg_name 7) (fun _ h => h) ?z1 ?t1) ?e1)
        (a_cons (e_var 0) (a_cons (e_is (d' := .lst ((t.map fun e => wordM now e.2).map D.str)) (e_lcM (own := [("row", 7)]) (g := gName 7) (js := [7]) (f := fOne 7) (fWord now) rfl sc_taken_names.nd (blkOk_by (N := ["setting", "table", "now", "many", "names", "rows", "found", "row", "at"]) (sc := defScope s_taken_names) (by decide +kernel)) (i_list (e_var 5)) (fun _ _ => trivial) (fun _ _ _ _ _ => pg_name (i := 7) sc_taken_names.nd rfl (Or.inl rfl)) (tg_name 7) (fun _ h => h) ?z2 ?t2) ?e2) (a_one (e_var 3)))))
        (spF_ok fun H' e => ⟨t.map fun e => e.2.own, a, S, t.map fun e => wordM now e.2, many, rfl, hS.same e, ok, by rw [List.length_map]; exact hz, by rw [List.length_map, List.length_map], rfl⟩)))
      (ss_one (s_ret (e_is (e_lcM (own := [("at", 8)]) (g := gName 8) (js := [8]) (f := fOne 8) (fun d => match d with
          | .int i => .str ((t.map (·.1)).getD i.toNat Str.empty)
          | _ => .non) rfl sc_taken_names.nd (blkOk_by (N := ["setting", "table", "now", "many", "names", "rows", "found", "row", "at"]) (sc := defScope s_taken_names) (by decide +kernel)) (i_list (e_var 6)) (fun _ _ => trivial) (fun _ _ _ _ _ => pg_name (i := 8) sc_taken_names.nd rfl (Or.inl rfl)) (tg_name 8) (fun _ h => h) ?z3 ?t3) ?e3))))
    case z1 => rw [tabD_vals, List.length_map]; exact Nat.lt_of_le_of_lt hz (by decide)
    case z2 => rw [tabD_vals, List.length_map]; exact Nat.lt_of_le_of_lt hz (by decide)
    case t1 =>
      intro M' _ _ d hd
      rw [tabD_vals] at hd
      obtain ⟨e, he, rfl⟩ := List.mem_map.mp hd
      exact ⟨_, rfl, fun _ _ _ _ _ => e_ixT (e_var 7) e_int rfl⟩
    case e1 => rw [tabD_vals, List.map_map, List.map_map]; rfl
    case t2 =>
      intro M' _ _ d hd
      rw [tabD_vals] at hd
      obtain ⟨e, he, rfl⟩ := List.mem_map.mp hd
      refine ⟨_, rfl, fun _ _ _ _ _ => e_is (c_call (h_word_for T) (hr.mono (by decide)) (g_word_for T) (a_cons (e_var 7) (a_one (e_var 2))) (spF_ok fun H' _ => ⟨e.2, now, rfl, hrow e he, rfl⟩)) ?_⟩
      exact (fWord_row now e.2).symm
    case e2 =>
      rw [tabD_vals, List.map_map, List.map_map]
      refine congrArg D.lst (List.map_congr_left fun e _ => ?_)
      exact fWord_row now e.2
    case z3 => rw [List.length_map]; exact Nat.lt_of_le_of_lt batchM_len (by rw [List.length_map]; exact Nat.lt_of_le_of_lt hz (by decide))
    case t3 =>
      intro M' _ _ d hd
      obtain ⟨i, hi, rfl⟩ := List.mem_map.mp hd
      obtain ⟨k, hk, rfl⟩ := batchM_mem hi
      rw [List.length_map] at hk
      refine ⟨_, rfl, fun _ _ _ _ _ => e_ixL (e_var 4) (e_var 8) (atI_nat ?_)⟩
      show _ = some (D.str ((t.map (·.1)).getD ((k : Int)).toNat Str.empty))
      rw [tabD_keys, List.getElem?_map, List.getElem?_map, Int.toNat_natCast, List.getD_eq_getElem?_getD, List.getElem?_map, List.getElem?_eq_getElem hk] <;> rfl
    case e3 => rw [List.map_map]; unfold takenM; rw [List.map_map]; rfl
end
end RQ
set_option Elab.async false
set_option linter.all false
set_option maxRecDepth 100000
set_option maxHeartbeats 4000000
namespace RQ
open PySem PySem.Spec PyProof.Rows L2 Dx
/-! ### a change: its object, its setting, its table -/
structure ChS (K : PySem.W.Frag) (H : Hp) (c a t : Addr) (S : Cfg) (now : Int) : Prop where
  ins : (insA K c (atG "Change" K) [("by", .ref a), ("when", .int now), ("table", .ref t)]).p H
  set : ∃ dx t', H a = some (.ins (atG "Setting" K) dx [("texts", .ref t')]) ∧ H t' = some (.dK (kvsS S)) ∧ t' ≠ t
  tab : ∃ kvs, H t = some (.dK kvs)
  ok : SOk S
def getR (tab : Tab) (k : Str) : QRow := (tab.lookup k).getD ⟨⟨Str.empty, 0, none⟩, Str.empty, none, 0, 0, 0, none⟩
def setT (tab : Tab) (k : Str) (r : QRow) : Tab := tab.map fun e => if e.1 = k then (e.1, r) else e
structure TabOk (tab : Tab) : Prop where
  nd : (tab.map (·.1)).Nodup
  len : tab.length ≤ 1000
  row : ∀ e ∈ tab, RowOk e.2
theorem tabD_lookup (tab : Tab) (k : Str) : (tabD tab).lookup k = (tab.lookup k).map rowD := by
  unfold tabD
  induction tab with
  | nil => rfl
  | cons e tab ih =>
    rw [List.map_cons, List.lookup_cons, List.lookup_cons]
    cases h : k == e.1 with
    | true => rfl
    | false => exact ih
theorem getR_of {tab : Tab} {k : Str} {r : QRow} (h : tab.lookup k = some r) : getR tab k = r := by unfold getR; rw [h]; rfl
theorem tabD_getR {tab : Tab} {k : Str} (h : (tab.lookup k).isSome = true) : (tabD tab).lookup k = some (rowD (getR tab k)) := by
  rw [tabD_lookup]
  obtain ⟨r, e⟩ := Option.isSome_iff_exists.mp h
  rw [getR_of e, e] <;> rfl
theorem tabD_setT {tab : Tab} {k : Str} (h : (tab.lookup k).isSome = true) (r : QRow) : tabD (setT tab k r) = putT (tabD tab) k (rowD r) := by
  unfold putT
  rw [if_pos (by rw [tabD_lookup]; rw [Option.isSome_map]; exact h)]
  unfold tabD setT
  rw [List.map_map, List.map_map]
  refine List.map_congr_left fun e _ => ?_
  show ((if e.1 = k then (e.1, r) else e).1, rowD (if e.1 = k then (e.1, r) else e).2) = (if e.1 = k then (e.1, rowD r) else (e.1, rowD e.2))
  by_cases z : e.1 = k
  · rw [if_pos z, if_pos z]
  · rw [if_neg z, if_neg z]
theorem setT_keys (tab : Tab) (k : Str) (r : QRow) : (setT tab k r).map (·.1) = tab.map (·.1) := by
  unfold setT
  rw [List.map_map]
  refine List.map_congr_left fun e _ => ?_
  show (if e.1 = k then (e.1, r) else e).1 = e.1
  by_cases z : e.1 = k
  · rw [if_pos z]
  · rw [if_neg z]
theorem setT_ok {tab : Tab} {k : Str} {r : QRow} (h : TabOk tab) (hr : RowOk r) : TabOk (setT tab k r) where
  nd := by rw [setT_keys]; exact h.nd
  len := by unfold setT; rw [List.length_map]; exact h.len
  row := fun e he => by
    unfold setT at he
    obtain ⟨e0, h0, rfl⟩ := List.mem_map.mp he
    by_cases z : e0.1 = k
    · rw [if_pos z]; exact hr
    · rw [if_neg z]; exact h.row e0 h0
theorem lookup_mem {α : Type} {k : Str} {v : α} : ∀ {l : List (Str × α)}, l.lookup k = some v → (k, v) ∈ l
  | [], h => by simp at h
  | e :: l, h => by
    rw [List.lookup_cons] at h
    cases hk : k == e.1 with
    | true =>
      rw [hk] at h
      cases h
      have : k = e.1 := beq_iff_eq.mp hk
      rw [this]
      exact List.mem_cons.mpr (.inl rfl)
    | false =>
      rw [hk] at h
      exact List.mem_cons.mpr (.inr (lookup_mem h))
theorem getR_ok {tab : Tab} {k : Str} (h : TabOk tab) (hk : (tab.lookup k).isSome = true) : RowOk (getR tab k) := by
  obtain ⟨r, e⟩ := Option.isSome_iff_exists.mp hk
  rw [getR_of e]
  exact h.row _ (lookup_mem e)
theorem lookup_isSome_keys {α β : Type} {k : Str} : ∀ {l : List (Str × α)} {m : List (Str × β)}, l.map (·.1) = m.map (·.1) → (l.lookup k).isSome = (m.lookup k).isSome
  | [], [], _ => rfl
  | [], _ :: _, h => by cases h
  | _ :: _, [], h => by cases h
  | e :: l, f :: m, h => by
    rw [List.map_cons, List.map_cons] at h
    obtain ⟨h1, h2⟩ := List.cons.inj h
    rw [List.lookup_cons, List.lookup_cons, h1]
    cases hk : k == f.1 with
    | true => rfl
    | false => exact lookup_isSome_keys h2
theorem setT_isSome (tab : Tab) (k k' : Str) (r : QRow) : ((setT tab k r).lookup k').isSome = (tab.lookup k').isSome := lookup_isSome_keys (setT_keys tab k r)
theorem setT_getR {tab : Tab} {k : Str} {r : QRow} (h : (tab.lookup k).isSome = true) : getR (setT tab k r) k = r := by
  refine getR_of ?_
  induction tab with
  | nil => simp at h
  | cons e tab ih =>
    unfold setT
    rw [List.map_cons]
    by_cases z : e.1 = k
    · rw [if_pos z, List.lookup_cons]
      show (match k == e.1 with
        | true => _
        | false => _) = _
      rw [beq_iff_eq.mpr z.symm]
    · rw [if_neg z, List.lookup_cons]
      rw [List.lookup_cons] at h
      have hb : (k == e.1) = false := beq_eq_false_iff_ne.mpr fun q => z q.symm
      rw [hb] at h ⊢
      exact ih h
section
variable {K : PySem.W.Frag} {H H0 : Hp} {c a t : Addr} {S : Cfg} {now : Int} {tab : Tab}
theorem ChS.mv (h : ChS K H0 c a t S now) (m : Mv [t] H0 H) (ht : ∃ kvs, H t = some (.dK kvs)) : ChS K H c a t S now where
  ins := by
    obtain ⟨dx, fs, h1, h2⟩ := h.ins
    obtain ⟨kvs, h3⟩ := h.tab
    refine ⟨dx, fs, m.keep _ _ h1 (fun z => ?_), h2.fr m.tup⟩
    rw [List.mem_singleton.mp z, h3] at h1
    cases h1
  set := by
    obtain ⟨dx, t', h1, h2, h3⟩ := h.set
    obtain ⟨kvs, h4⟩ := h.tab
    refine ⟨dx, t', m.keep _ _ h1 (fun z => ?_), m.keep _ _ h2 (fun z => h3 (List.mem_singleton.mp z)), h3⟩
    rw [List.mem_singleton.mp z, h4] at h1
    cases h1
  tab := ht
  ok := h.ok
theorem ChS.setAt (h : ChS K H c a t S now) : SetAt K H a S := let ⟨dx, t', h1, h2, _⟩ := h.set; ⟨dx, t', h1, h2⟩
theorem ChS.same (h : ChS K H0 c a t S now) (e : Same H0 H) : ChS K H c a t S now := h.mv (.of_same e) (let ⟨kvs, h4⟩ := h.tab; ⟨kvs, e _ _ h4⟩)
/-- the state within a change's methods -/
def chA (K : PySem.W.Frag) (t : Addr) (H0 : Hp) (tab : Tab) : As := (As.mv [t] H0).and (tabA K t (tabD tab))
theorem chA_s (h : ChS K H0 c a t S now) : ∀ H, (chA K t H0 tab).p H → ChS K H c a t S now := fun H b => h.mv b.1 (let ⟨kvs, h1, _⟩ := b.2; ⟨kvs, h1⟩)
/-- the table is changed -/
theorem chA_put (tab' : Tab) {es : List (Str × D)} (e : es = tabD tab') (hk : ∃ kvs, H0 t = some (.dK kvs)) : ∀ (H : Hp) (u : HO), (chA K t H0 tab).p H → (tabA K t es).p (upd H t u) → Fr (fun a => a ≠ t) H (upd H t u) → (chA K t H0 tab').p (upd H t u) := fun H u b q f => by
  subst e
  refine ⟨?_, q⟩
  obtain ⟨kvs, h1, _⟩ := b.2
  exact b.1.trans (.upd h1 (fun _ z => by cases z) (List.mem_singleton.mpr rfl))
end
section
variable {P : Program} {w : World} {K : PySem.W.Frag} {mg : Str → Option Value} {base : Heap}
/-! ### until -/
def untilM (S : Cfg) (now : Int) : Option Int := (limW (sg S "hold")).map (now + ·)
def preUntil (K : PySem.W.Frag) : Hp → List D → D → Prop := fun H ds d => ∃ (c a t : Addr) (S : Cfg) (now : Int), ds = [.ref c] ∧ ChS K H c a t S now ∧ d = oI (untilM S now)
theorem preUntil_mono (H H' : Hp) (ds : List D) (d : D) (e : Same H H') (h : preUntil K H ds d) : preUntil K H' ds d := let ⟨c, a, t, S, n, h1, h2, h3⟩ := h; ⟨c, a, t, S, n, h1, h2.same e, h3⟩
theorem sc_until : FnScope ["self"] ["self"] (defScope s_Change_until) := ⟨rfl, rfl, rfl, by decide +kernel, rfl, by decide +kernel, by decide +kernel⟩
theorem h_until (T : Txt K mg) : Has P w K mg base 4 (atM "Change" "until" K) ["self"] (spF K (preUntil K)) := by
  obtain ⟨fd, F⟩ := f_Change_until T
  refine ⟨fd, okF F sc_until (fun H ds d h => ?_) preUntil_mono fun cdv A outer s H E M ds d hr h => ?_, F.bindsN fun _ _ _ _ _ _ us hl => match us, hl with | [_], _ => rfl, F.kp⟩
  · obtain ⟨_, _, _, _, _, rfl, _⟩ := h
    rfl
  · obtain ⟨c, a, t, S, now, rfl, hc, rfl⟩ := h
    refine ⟨.rt (As.same H) _, ⟨fun _ h => h, rfl⟩, ?_⟩
    refine ss_one (s_ret (e_ifx (k := (limW (sg S "hold")).isSome) (t_val (c_call (h_is_integer T) (hr.mono (by decide)) (g_is_integer T) (a_one (c_prop (cl_Setting T) (pr_hold T) (h_hold T) hr (e_getF (cl_Change T) (na_Change_by T) (e_var 0) (fun H' e => (hc.same e).ins) rfl) (fun H' e => (hc.same e).setAt.ins) (spF_ok fun H' e => ⟨a, S, rfl, (hc.same e).setAt, hc.ok, rfl⟩))) isInt_ok)) (fun h => ?_) fun h => e_is e_non ?_))
    · obtain ⟨n, hn⟩ := Option.isSome_iff_exists.mp h
      refine e_is (e_add (j := n) (e_getF (cl_Change T) (na_Change_when T) (e_var 0) (fun H' e => (hc.same e).ins) rfl) (e_is (c_prop (cl_Setting T) (pr_hold T) (h_hold T) hr (e_getF (cl_Change T) (na_Change_by T) (e_var 0) (fun H' e => (hc.same e).ins) rfl) (fun H' e => (hc.same e).setAt.ins) (spF_ok fun H' e => ⟨a, S, rfl, (hc.same e).setAt, hc.ok, rfl⟩)) (by show numW _ = _; rw [numW_lim, hn]))) ?_
      unfold untilM
      rw [hn] <;> rfl
    · unfold untilM
      cases e : limW (sg S "hold") with
      | none => rfl
      | some n =>
        rw [e] at h
        cases h
/-! ### the methods that change the table -/
def preCh (K : PySem.W.Frag) (R : Cfg → Int → Tab → List D → Tab → D → Prop) : AS → Hp → List D → List Addr → As → D → Prop := fun M H ds Sx C d => ∃ (c a t : Addr) (S : Cfg) (now : Int) (tab : Tab) (as : List D) (tab' : Tab) (v : D),
  ds = .ref c :: as ∧ ChS K H c a t S now ∧ (tabA K t (tabD tab)).p H ∧ TabOk tab ∧ R S now tab as tab' v ∧ Sx = [t] ∧ C = tabA K t (tabD tab') ∧ d = v
theorem ch_ok {M : AS} {R : Cfg → Int → Tab → List D → Tab → D → Prop} {c a t : Addr} {S : Cfg} {now : Int} {tab tab' : Tab} {as : List D} {v : D} {H0 : Hp} (h : ChS K H0 c a t S now) (ok : TabOk tab) (hR : R S now tab as tab' v) :
    SpOk K M (spW K (preCh K R)) (chA K t H0 tab) (.ref c :: as) (chA K t H0 tab') v := spW_ok (fun H b => ⟨c, a, t, S, now, tab, as, tab', v, rfl, chA_s h H b, b.2, ok, hR, rfl, rfl, rfl⟩) fun H H' b m q => ⟨b.1.trans m, q⟩
/-- the frame of such a method's proof -/
theorem okCh {x qual : Str} {params : Arguments} {body : List Stmt} {scope : Scope} {f : Addr} {fd : FuncData} {N ps : List Str} {k : Nat} {R : Cfg → Int → Tab → List D → Tab → D → Prop} (F : FunD K x qual params body scope [] [] f fd) (Sc : FnScope N ("self" :: ps) scope) (len : ∀ S now tab as tab' v, R S now tab as tab' v → as.length = ps.length)
    (hbody : ∀ (cdv : Value) (A : Around) (outer : List Env) (s : Shared) (H : Hp) (E : XK) (M : AS) (c a t : Addr) (S : Cfg) (now : Int) (tab : Tab) (as : List D) (tab' : Tab) (v : D), Room k (A.deeper (envOfC qual scope s.heap.objs.size f cdv)) → ChS K H c a t S now → TabOk tab → R S now tab as tab' v →
      PSs (cxOf CX0 P w K mg base N qual scope f cdv A outer s H E).nox body (tO K M (chA K t H tab) (startD N (.ref c :: as)) (.rt (chA K t H tab') v)) ∨ (v = .non ∧ ∃ δ', PSs (cxOf CX0 P w K mg base N qual scope f cdv A outer s H E).nox body (tO K M (chA K t H tab) (startD N (.ref c :: as)) (.nx (chA K t H tab') δ')))) :
    FnOk P w K mg base CX0 (k + 1) f fd ("self" :: ps) (spW K (preCh K R)) := by
  refine okW F Sc (fun M H ds Sx C d h => ?_) fun cdv A outer s H E M ds Sx C d hr tr h => ?_
  · obtain ⟨c, a, t, S, now, tab, as, tab', v, rfl, _, _, _, hR, _⟩ := h
    rw [List.length_cons, List.length_cons, len _ _ _ _ _ _ hR]
  · obtain ⟨c, a, t, S, now, tab, as, tab', v, rfl, hc, ht, ok, hR, rfl, rfl, rfl⟩ := h
    rcases hbody cdv A outer s H E M c a t S now tab as tab' d hr hc ok hR with hb | ⟨e, δ', hb⟩
    · exact ⟨chA K t H tab, .rt (chA K t H tab') d, ⟨.refl H, ht⟩, fun H' b => ⟨b.1, b.2, rfl⟩, hb⟩
    · exact ⟨chA K t H tab, .nx (chA K t H tab') δ', ⟨.refl H, ht⟩, fun H' b => ⟨b.1, b.2, e.symm⟩, hb⟩
def movedT (tab : Tab) (n p : Str) (tm : Option Int) : Tab := setT tab n { getR tab n with place := p, time := tm }
def triedT (tab : Tab) (n : Str) : Tab := setT tab n { getR tab n with tries := (getR tab n).tries + 1 }
def R_moved : Cfg → Int → Tab → List D → Tab → D → Prop := fun S now tab as tab' v => ∃ (n p : Str) (tm : Option Int), as = [.str n, .str p, oI tm] ∧ (tab.lookup n).isSome = true ∧ tab' = movedT tab n p tm ∧ v = .non
theorem sc_moved : FnScope ["self", "name", "place", "time"] ["self", "name", "place", "time"] (defScope s_Change_moved) := ⟨rfl, rfl, rfl, by decide +kernel, rfl, by decide +kernel, by decide +kernel⟩
theorem h_moved (T : Txt K mg) : Has P w K mg base 1 (atM "Change" "moved" K) ["self", "name", "place", "time"] (spW K (preCh K R_moved)) := by
  obtain ⟨fd, F⟩ := f_Change_moved T
  refine ⟨fd, okCh F sc_moved (fun S now tab as tab' v h => ?_) fun cdv A outer s H E M c a t S now tab as tab' v hr hc ok hR => .inr ?_, F.bindsN fun _ _ _ _ _ _ us hl => match us, hl with | [_, _, _, _], _ => rfl, F.kp⟩
  · obtain ⟨n, p, tm, rfl, _⟩ := h
    rfl
  · obtain ⟨n, p, tm, rfl, hn, rfl, rfl⟩ := hR
    have hi : ∀ H', (chA K t H tab).p H' → (insA K c (atG "Change" K) [("by", .ref a), ("when", .int now), ("table", .ref t)]).p H' := fun H' b => (chA_s hc H' b).ins
    have ht : ∀ H', (chA K t H tab).p H' → (tabA K t (tabD tab)).p H' := fun H' b => b.2
    exact ⟨rfl, _, ss_one (s_tput (hu_of hr) (e_is (d' := rowD { getR tab n with place := p, time := tm }) (e_catT (e_catT (e_slT (e_tget (hu_of hr) (e_getF (cl_Change T) (na_Change_table T) (e_var 0) hi rfl) (e_var 1) ht (tabD_getR hn)) o_none (o_some e_int)) (e_tup (a_cons (e_var 2) (a_one (e_var 3)))) (Nat.le_trans (Nat.le_of_ble_eq_true (rfl : Nat.ble _ 100 = true)) (by decide)))
        (e_slT (e_tget (hu_of hr) (e_getF (cl_Change T) (na_Change_table T) (e_var 0) hi rfl) (e_var 1) ht (tabD_getR hn)) (o_some e_int) o_none) (Nat.le_trans (Nat.le_of_ble_eq_true (rfl : Nat.ble _ 100 = true)) (by decide))) rfl)
      (e_getF (cl_Change T) (na_Change_table T) (e_var 0) hi rfl) (e_var 1) ht (rowD_flat _) (by rw [tabD_len]; exact Nat.lt_of_le_of_lt ok.len (by decide)) (chA_put _ (tabD_setT hn _).symm hc.tab))⟩
def R_tried : Cfg → Int → Tab → List D → Tab → D → Prop := fun S now tab as tab' v => ∃ (n : Str), as = [.str n] ∧ (tab.lookup n).isSome = true ∧ tab' = triedT tab n ∧ v = .non
theorem sc_tried : FnScope ["self", "name", "row"] ["self", "name"] (defScope s_Change_tried) := ⟨rfl, rfl, rfl, by decide +kernel, rfl, by decide +kernel, by decide +kernel⟩
theorem h_tried (T : Txt K mg) : Has P w K mg base 1 (atM "Change" "tried" K) ["self", "name"] (spW K (preCh K R_tried)) := by
  obtain ⟨fd, F⟩ := f_Change_tried T
  refine ⟨fd, okCh F sc_tried (fun S now tab as tab' v h => ?_) fun cdv A outer s H E M c a t S now tab as tab' v hr hc ok hR => .inr ?_, F.bindsN fun _ _ _ _ _ _ us hl => match us, hl with | [_, _], _ => rfl, F.kp⟩
  · obtain ⟨n, rfl, _⟩ := h
    rfl
  · obtain ⟨n, rfl, hn, rfl, rfl⟩ := hR
    have hi : ∀ H', (chA K t H tab).p H' → (insA K c (atG "Change" K) [("by", .ref a), ("when", .int now), ("table", .ref t)]).p H' := fun H' b => (chA_s hc H' b).ins
    have ht : ∀ H', (chA K t H tab).p H' → (tabA K t (tabD tab)).p H' := fun H' b => b.2
    exact ⟨rfl, _, ss_cons (s_set 2 sc_tried.nd (e_tget (hu_of hr) (e_getF (cl_Change T) (na_Change_table T) (e_var 0) hi rfl) (e_var 1) ht (tabD_getR hn)))
      (ss_one (s_tput (hu_of hr) (e_is (d' := rowD { getR tab n with tries := (getR tab n).tries + 1 }) (e_catT (e_catT (e_slT (e_var 2) o_none (o_some e_int)) (e_tup (a_one (e_add (e_ixT (e_var 2) e_int (d := .int (getR tab n).tries) rfl) e_int))) (Nat.le_trans (Nat.le_of_ble_eq_true (rfl : Nat.ble _ 100 = true)) (by decide)))
        (e_slT (e_var 2) (o_some e_int) o_none) (Nat.le_trans (Nat.le_of_ble_eq_true (rfl : Nat.ble _ 100 = true)) (by decide))) rfl)
      (e_getF (cl_Change T) (na_Change_table T) (e_var 0) hi rfl) (e_var 1) ht (rowD_flat _) (by rw [tabD_len]; exact Nat.lt_of_le_of_lt ok.len (by decide)) (chA_put _ (tabD_setT hn _).symm hc.tab)))⟩
/-! ### back_now -/
def backT (S : Cfg) (now : Int) (tab : Tab) (n : Str) : Tab := setT tab n (fallenM S (getR tab n) now)
def backV (S : Cfg) (now : Int) (tab : Tab) (n : Str) : Bool := decide ((fallenM S (getR tab n) now).place = "dead")
theorem fallen_ok (S : Cfg) (r : QRow) (when : Int) : RowOk (fallenM S r when) := by
  unfold fallenM
  by_cases h : stopsM S r.tries = true
  · rw [if_pos h]
    exact fun z => absurd z (show ¬ ("dead" : Str) = "ready" by decide)
  · rw [if_neg h]
    exact fun _ => ⟨_, rfl⟩
def R_back : Cfg → Int → Tab → List D → Tab → D → Prop := fun S now tab as tab' v => ∃ (n : Str), as = [.str n] ∧ (tab.lookup n).isSome = true ∧ tab' = backT S now tab n ∧ v = .bl (backV S now tab n)
theorem sc_back_now : FnScope ["self", "name"] ["self", "name"] (defScope s_Change_back_now) := ⟨rfl, rfl, rfl, by decide +kernel, rfl, by decide +kernel, by decide +kernel⟩
theorem h_back_now (T : Txt K mg) : Has P w K mg base 5 (atM "Change" "back_now" K) ["self", "name"] (spW K (preCh K R_back)) := by
  obtain ⟨fd, F⟩ := f_Change_back_now T
  refine ⟨fd, okCh F sc_back_now (fun S now tab as tab' v h => ?_) fun cdv A outer s H E M c a t S now tab as tab' v hr hc ok hR => .inl ?_, F.bindsN fun _ _ _ _ _ _ us hl => match us, hl with | [_, _], _ => rfl, F.kp⟩
  · obtain ⟨n, rfl, _⟩ := h
    rfl
  · obtain ⟨n, rfl, hn, rfl, rfl⟩ := hR
    have hi : ∀ tb H', (chA K t H tb).p H' → (insA K c (atG "Change" K) [("by", .ref a), ("when", .int now), ("table", .ref t)]).p H' := fun tb H' b => (chA_s hc H' b).ins
    have ht : ∀ tb H', (chA K t H tb).p H' → (tabA K t (tabD tb)).p H' := fun tb H' b => b.2
    have hn' : ((backT S now tab n).lookup n).isSome = true := by unfold backT; rw [setT_isSome]; exact hn
    refine ss_cons (s_tput (hu_of hr) (c_call (h_fallen T) (hr.mono (by decide)) (g_fallen T) (a_cons (e_getF (cl_Change T) (na_Change_by T) (e_var 0) (hi tab) rfl) (a_cons (e_tget (hu_of hr) (e_getF (cl_Change T) (na_Change_table T) (e_var 0) (hi tab) rfl) (e_var 1) (ht tab) (tabD_getR hn)) (a_one (e_getF (cl_Change T) (na_Change_when T) (e_var 0) (hi tab) rfl)))) (spF_ok fun H' b => ⟨a, S, getR tab n, now, rfl, (chA_s hc H' b).setAt, hc.ok, rfl⟩))
      (e_getF (cl_Change T) (na_Change_table T) (e_var 0) (hi tab) rfl) (e_var 1) (ht tab) (rowD_flat _) (by rw [tabD_len]; exact Nat.lt_of_le_of_lt ok.len (by decide)) (chA_put (backT S now tab n) (tabD_setT hn _).symm hc.tab))
      (ss_one (s_ret (e_is (e_eqS (e_ixT (e_tget (hu_of hr) (e_getF (cl_Change T) (na_Change_table T) (e_var 0) (hi (backT S now tab n)) rfl) (e_var 1) (ht (backT S now tab n)) (tabD_getR hn')) e_int (d := .str (getR (backT S now tab n) n).place) rfl) e_str) ?_)))
    unfold backT backV
    rw [setT_getR hn]
/-! ### effect_of -/
def effT (now : Int) (tab : Tab) (n : Str) : Tab := setT tab n { getR tab n with effects := (getR tab n).effects + 1, last := some now }
def R_eff : Cfg → Int → Tab → List D → Tab → D → Prop := fun S now tab as tab' v => ∃ (n : Str), as = [.str n] ∧ (tab.lookup n).isSome = true ∧ tab' = (if rememberedM S (getR tab n) now = true then tab else effT now tab n) ∧ v = .bl (!rememberedM S (getR tab n) now)
theorem sc_effect_of : FnScope ["self", "name", "row"] ["self", "name"] (defScope s_Change_effect_of) := ⟨rfl, rfl, rfl, by decide +kernel, rfl, by decide +kernel, by decide +kernel⟩
theorem h_effect_of (T : Txt K mg) : Has P w K mg base 5 (atM "Change" "effect_of" K) ["self", "name"] (spW K (preCh K R_eff)) := by
  obtain ⟨fd, F⟩ := f_Change_effect_of T
  refine ⟨fd, okCh F sc_effect_of (fun S now tab as tab' v h => ?_) fun cdv A outer s H E M c a t S now tab as tab' v hr hc ok hR => .inl ?_, F.bindsN fun _ _ _ _ _ _ us hl => match us, hl with | [_, _], _ => rfl, F.kp⟩
  · obtain ⟨n, rfl, _⟩ := h
    rfl
  · obtain ⟨n, rfl, hn, rfl, rfl⟩ := hR
    have hi : ∀ tb H', (chA K t H tb).p H' → (insA K c (atG "Change" K) [("by", .ref a), ("when", .int now), ("table", .ref t)]).p H' := fun tb H' b => (chA_s hc H' b).ins
    have ht : ∀ tb H', (chA K t H tb).p H' → (tabA K t (tabD tb)).p H' := fun tb H' b => b.2
    refine ss_cons (s_set 2 sc_effect_of.nd (e_tget (hu_of hr) (e_getF (cl_Change T) (na_Change_table T) (e_var 0) (hi tab) rfl) (e_var 1) (ht tab) (tabD_getR hn)))
      (ss_if (k := rememberedM S (getR tab n) now) (t_val (c_call (h_is_remembered T) (hr.mono (by decide)) (g_is_remembered T) (a_cons (e_getF (cl_Change T) (na_Change_by T) (e_var 0) (hi tab) rfl) (a_cons (e_var 2) (a_one (e_getF (cl_Change T) (na_Change_when T) (e_var 0) (hi tab) rfl)))) (spF_ok fun H' b => ⟨a, S, getR tab n, now, rfl, (chA_s hc H' b).setAt, hc.ok, rfl⟩)))
        (fun h => ?r1) fun h => ?r2)
    case r1 =>
      rw [h, if_pos rfl]
      exact ss_one (s_ret e_bl)
    case r2 =>
      rw [h, if_neg (by decide)]
      exact ss_cons (s_tput (hu_of hr) (e_is (d' := rowD { getR tab n with effects := (getR tab n).effects + 1, last := some now }) (e_catT (e_slT (e_var 2) o_none (o_some e_int)) (e_tup (a_cons (e_add (e_ixT (e_var 2) e_int (d := .int (getR tab n).effects) rfl) e_int) (a_one (e_getF (cl_Change T) (na_Change_when T) (e_var 0) (hi tab) rfl)))) (Nat.le_trans (Nat.le_of_ble_eq_true (rfl : Nat.ble _ 100 = true)) (by decide))) rfl)
        (e_getF (cl_Change T) (na_Change_table T) (e_var 0) (hi tab) rfl) (e_var 1) (ht tab) (rowD_flat _) (by rw [tabD_len]; exact Nat.lt_of_le_of_lt ok.len (by decide)) (chA_put (effT now tab n) (tabD_setT hn _).symm hc.tab)) (ss_one (s_ret e_bl))
/-! ### put_new -/
def putRow (now : Int) (key : Str) (weight due : Int) (origin : Option Str) : QRow := match origin with
  | none => ⟨⟨key, weight, none⟩, "ready", some (if due > now then due else now), 0, 0, 0, none⟩
  | some o => ⟨⟨key, weight, some o⟩, "yet", none, 0, 0, 0, none⟩
def R_put : Cfg → Int → Tab → List D → Tab → D → Prop := fun S now tab as tab' v => ∃ (n key : Str) (weight due : Int) (origin : Option Str), as = [.str n, .str key, .int weight, .int due, oD origin] ∧ tab.lookup n = none ∧ tab.length < 200 ∧ (∀ o, origin = some o → (tab.lookup o).isSome = true) ∧
  tab' = tab ++ [(n, putRow now key weight due origin)] ∧ v = .non
theorem tabD_snoc {tab : Tab} {n : Str} (h : tab.lookup n = none) (r : QRow) : tabD (tab ++ [(n, r)]) = putT (tabD tab) n (rowD r) := by
  unfold putT
  rw [if_neg (by rw [tabD_lookup, h]; decide)]
  unfold tabD
  rw [List.map_append] <;> rfl
theorem sc_put_new : FnScope ["self", "name", "key", "weight", "due", "origin", "place", "time"] ["self", "name", "key", "weight", "due", "origin"] (defScope s_Change_put_new) := ⟨rfl, rfl, rfl, by decide +kernel, rfl, by decide +kernel, by decide +kernel⟩
theorem h_put_new (T : Txt K mg) : Has P w K mg base 1 (atM "Change" "put_new" K) ["self", "name", "key", "weight", "due", "origin"] (spW K (preCh K R_put)) := by
  obtain ⟨fd, F⟩ := f_Change_put_new T
  refine ⟨fd, okCh F sc_put_new (fun S now tab as tab' v h => ?_) fun cdv A outer s H E M c a t S now tab as tab' v hr hc ok hR => .inr ?_, F.bindsN fun _ _ _ _ _ _ us hl => match us, hl with | [_, _, _, _, _, _], _ => rfl, F.kp⟩
  · obtain ⟨n, k, wt, du, o, rfl, _⟩ := h
    rfl
  · obtain ⟨n, key, weight, due, origin, rfl, hn, hlen, ho, rfl, rfl⟩ := hR
    have hi : ∀ H', (chA K t H tab).p H' → (insA K c (atG "Change" K) [("by", .ref a), ("when", .int now), ("table", .ref t)]).p H' := fun H' b => (chA_s hc H' b).ins
    have ht : ∀ H', (chA K t H tab).p H' → (tabA K t (tabD tab)).p H' := fun H' b => b.2
    refine ⟨rfl, ?_⟩
    cases origin with
    | none =>
      exact ⟨_, ss_cons (s_ifF (t_is (t_tin (hu_of hr) (e_var 1) (e_getF (cl_Change T) (na_Change_table T) (e_var 0) hi rfl) ht) (by rw [tabD_lookup, hn] <;> rfl)))
        (ss_cons (s_ifF (t_is (t_eqI (e_tlen (n_len T) (e_getF (cl_Change T) (na_Change_table T) (e_var 0) hi rfl) ht) (e_constI (i_MOST_NAMES T))) (by rw [tabD_len]; exact decide_eq_false (by omega))))
        (ss_cons (s_ifF (t_is (t_and (k := false) (j := true) (t_is (t_notN (k := true) (e_var 5) (fun K H v r => by cases r; rfl)) rfl) (fun h => by cases h)) rfl))
        (ss_cons (s_asg (f := fTup (fCons (fOne 6) (fCons (fOne 7) fNil))) (e_ifx (k := true) (t_isN (e_var 5) (fun K H v r => by cases r; rfl)) (fun _ => e_tup (a_cons e_str (a_one (e_callB (call_max2 rfl) (a_cons (e_getF (cl_Change T) (na_Change_when T) (e_var 0) hi rfl) (a_one (e_var 4))) rc_max2 (n_max T))))) (fun h => by cases h)) (pg_tup rfl (pgs_cons (pg_name (i := 6) sc_put_new.nd rfl (Or.inl rfl)) (pgs_cons (pg_name (i := 7) sc_put_new.nd rfl (Or.inl rfl)) pgs_nil))) (tg_pair 6 7) rfl)
        (ss_one (s_tput (d := rowD (putRow now key weight due none)) (hu_of hr) (e_tup (a_cons (e_tup (a_cons (e_var 2) (a_cons (e_var 3) (a_one (e_var 5))))) (a_cons (e_var 6) (a_cons (e_var 7) (a_cons e_int (a_cons e_int (a_cons e_int (a_one e_non)))))))) (e_getF (cl_Change T) (na_Change_table T) (e_var 0) hi rfl) (e_var 1) ht (rowD_flat _) (by rw [tabD_len]; exact Nat.lt_of_le_of_lt ok.len (by decide)) (chA_put _ (tabD_snoc hn _).symm hc.tab))))))⟩
    | some o =>
      exact ⟨_, ss_cons (s_ifF (t_is (t_tin (hu_of hr) (e_var 1) (e_getF (cl_Change T) (na_Change_table T) (e_var 0) hi rfl) ht) (by rw [tabD_lookup, hn] <;> rfl)))
        (ss_cons (s_ifF (t_is (t_eqI (e_tlen (n_len T) (e_getF (cl_Change T) (na_Change_table T) (e_var 0) hi rfl) ht) (e_constI (i_MOST_NAMES T))) (by rw [tabD_len]; exact decide_eq_false (by omega))))
        (ss_cons (s_ifF (t_is (t_and (k := true) (t_is (t_notN (k := false) (e_var 5) (fun K H v r => by cases r; rfl)) rfl) (fun h => t_tnotin (hu_of hr) (e_var 5 (d := .str o)) (e_getF (cl_Change T) (na_Change_table T) (e_var 0) hi rfl) ht)) (by rw [tabD_lookup, Option.isSome_map, ho o rfl] <;> rfl)))
        (ss_cons (s_asg (f := fTup (fCons (fOne 6) (fCons (fOne 7) fNil))) (e_ifx (k := false) (t_isN (e_var 5) (fun K H v r => by cases r; rfl)) (fun h => by cases h) (fun _ => e_tup (a_cons e_str (a_one e_non)))) (pg_tup rfl (pgs_cons (pg_name (i := 6) sc_put_new.nd rfl (Or.inl rfl)) (pgs_cons (pg_name (i := 7) sc_put_new.nd rfl (Or.inl rfl)) pgs_nil))) (tg_pair 6 7) rfl)
        (ss_one (s_tput (d := rowD (putRow now key weight due (some o))) (hu_of hr) (e_tup (a_cons (e_tup (a_cons (e_var 2) (a_cons (e_var 3) (a_one (e_var 5))))) (a_cons (e_var 6) (a_cons (e_var 7) (a_cons e_int (a_cons e_int (a_cons e_int (a_one e_non)))))))) (e_getF (cl_Change T) (na_Change_table T) (e_var 0) hi rfl) (e_var 1) ht (rowD_flat _) (by rw [tabD_len]; exact Nat.lt_of_le_of_lt ok.len (by decide)) (chA_put _ (tabD_snoc hn _).symm hc.tab))))))⟩
/-! ### let_go -/
def letT (S : Cfg) (now : Int) (tab : Tab) (w n : Str) (held : Bool) : Tab :=
  if w = "give" then (if held = true then movedT tab n "ready" (some now) else tab)
  else if held = true then backT S now (if sg S "count" = "fail" then triedT tab n else tab) n else tab
def letV (S : Cfg) (now : Int) (tab : Tab) (w n : Str) (held : Bool) : D :=
  if w = "give" then .non
  else if held = true then .bl (backV S now (if sg S "count" = "fail" then triedT tab n else tab) n) else .bl false
def R_let : Cfg → Int → Tab → List D → Tab → D → Prop := fun S now tab as tab' v => ∃ (w n : Str) (held : Bool), as = [.str w, .str n, .bl held] ∧ (tab.lookup n).isSome = true ∧ tab' = letT S now tab w n held ∧ v = letV S now tab w n held
theorem triedT_ok {tab : Tab} {n : Str} (h : TabOk tab) (hn : (tab.lookup n).isSome = true) : TabOk (triedT tab n) := setT_ok h fun z => getR_ok h hn z
theorem ch_nolk {c : Addr} {H : Hp} {a t : Addr} {now : Int} {m : Str} (h : (insA K c (atG "Change" K) [("by", .ref a), ("when", .int now), ("table", .ref t)]).p H) (hm : List.lookup m [(("by" : Str), D.ref a), ("when", .int now), ("table", .ref t)] = none := by rfl) : ∃ dx fs, H c = some (.ins (atG "Change" K) dx fs) ∧ fs.lookup m = none := let ⟨dx, fs, h1, h2⟩ := h; ⟨dx, fs, h1, h2.getN hm⟩
theorem sc_let_go : FnScope ["self", "word", "name", "held"] ["self", "word", "name", "held"] (defScope s_Change_let_go) := ⟨rfl, rfl, rfl, by decide +kernel, rfl, by decide +kernel, by decide +kernel⟩
theorem h_let_go (T : Txt K mg) : Has P w K mg base 6 (atM "Change" "let_go" K) ["self", "word", "name", "held"] (spW K (preCh K R_let)) := by
  obtain ⟨fd, F⟩ := f_Change_let_go T
  refine ⟨fd, okCh F sc_let_go (fun S now tab as tab' v h => ?_) fun cdv A outer s H E M c a t S now tab as tab' v hr hc ok hR => .inl ?_, F.bindsN fun _ _ _ _ _ _ us hl => match us, hl with | [_, _, _, _], _ => rfl, F.kp⟩
  · obtain ⟨w, n, held, rfl, _⟩ := h
    rfl
  · obtain ⟨w, n, held, rfl, hn, rfl, rfl⟩ := hR
    have hi : ∀ tb H', (chA K t H tb).p H' → (insA K c (atG "Change" K) [("by", .ref a), ("when", .int now), ("table", .ref t)]).p H' := fun tb H' b => (chA_s hc H' b).ins
    have ht : ∀ tb H', (chA K t H tb).p H' → (tabA K t (tabD tb)).p H' := fun tb H' b => b.2
    unfold letT letV
    refine ss_if (k := decide (w = "give")) (t_eqS (e_var 1) e_str) (fun h => ?r1) fun h => ?r2
    case r1 =>
      rw [if_pos (of_decide_eq_true h), if_pos (of_decide_eq_true h)]
      cases held with
      | true => exact ss_cons (s_ifT (t_val (e_var 3)) (ss_one (s_expr (c_meth (cl_Change T) (me_Change_moved T) (h_moved T) (hr.mono (by decide)) (e_var 0) (fun H' b => ch_nolk (hi _ H' b)) (a_cons (e_var 2) (a_cons e_str (a_one (e_getF (cl_Change T) (na_Change_when T) (e_var 0) (hi tab) rfl)))) (ch_ok hc ok ⟨n, "ready", some now, rfl, hn, rfl, rfl⟩))))) (ss_one (s_ret e_non))
      | false => exact ss_cons (s_ifF (t_val (e_var 3))) (ss_one (s_ret e_non))
    case r2 =>
      rw [if_neg (of_decide_eq_false h), if_neg (of_decide_eq_false h)]
      cases held with
      | false => exact ss_cons (s_ifF (t_is (t_and (k := false) (j := true) (t_val (e_var 3)) (fun h => by cases h)) rfl)) (ss_one (s_ret (e_and (k := false) (e_var 3) (fun h => by cases h) fun _ => ⟨rfl, fun _ h => h⟩)))
      | true =>
        rw [if_pos rfl, if_pos rfl]
        by_cases hf : sg S "count" = "fail"
        · rw [if_pos hf]
          have ok' := triedT_ok ok hn
          have hn' : ((triedT tab n).lookup n).isSome = true := by unfold triedT; rw [setT_isSome]; exact hn
          exact ss_cons (s_ifT (t_is (t_and (k := true) (t_val (e_var 3)) (fun _ => t_eqS (c_prop (cl_Setting T) (pr_counted T) (h_counted T) (hr.mono (by decide)) (e_getF (cl_Change T) (na_Change_by T) (e_var 0) (hi tab) rfl) (fun H' b => (chA_s hc H' b).setAt.ins) (spF_ok fun H' b => ⟨a, S, rfl, (chA_s hc H' b).setAt, hc.ok, rfl⟩)) e_str)) (by rw [hf] <;> rfl))
              (ss_one (s_expr (c_meth (cl_Change T) (me_Change_tried T) (h_tried T) (hr.mono (by decide)) (e_var 0) (fun H' b => ch_nolk (hi _ H' b)) (a_one (e_var 2)) (ch_ok hc ok ⟨n, rfl, hn, rfl, rfl⟩)))))
            (ss_one (s_ret (e_and (k := true) (e_var 3) (fun _ => e_one (c_meth (cl_Change T) (me_Change_back_now T) (h_back_now T) (hr.mono (by decide)) (e_var 0) (fun H' b => ch_nolk (hi _ H' b)) (a_one (e_var 2)) (ch_ok hc ok' ⟨n, rfl, hn', rfl, rfl⟩))) fun h => by cases h)))
        · rw [if_neg hf]
          exact ss_cons (s_ifF (t_is (t_and (k := true) (t_val (e_var 3)) (fun _ => t_eqS (c_prop (cl_Setting T) (pr_counted T) (h_counted T) (hr.mono (by decide)) (e_getF (cl_Change T) (na_Change_by T) (e_var 0) (hi tab) rfl) (fun H' b => (chA_s hc H' b).setAt.ins) (spF_ok fun H' b => ⟨a, S, rfl, (chA_s hc H' b).setAt, hc.ok, rfl⟩)) e_str)) (by rw [decide_eq_false hf] <;> rfl)))
            (ss_one (s_ret (e_and (k := true) (e_var 3) (fun _ => e_one (c_meth (cl_Change T) (me_Change_back_now T) (h_back_now T) (hr.mono (by decide)) (e_var 0) (fun H' b => ch_nolk (hi _ H' b)) (a_one (e_var 2)) (ch_ok hc ok ⟨n, rfl, hn, rfl, rfl⟩))) fun h => by cases h)))
end
end RQ
set_option Elab.async false
set_option linter.all false
set_option maxRecDepth 100000
set_option maxHeartbeats 4000000
namespace RQ
open PySem PySem.Spec PyProof.Rows L2 Dx
section
variable {P : Program} {w : World} {K : PySem.W.Frag} {mg : Str → Option Value} {base : Heap}
/-! ### by_token -/
def heldB (tab : Tab) (n : Str) : Bool := decide ((getR tab n).place = "held")
def validB (tab : Tab) (n : Str) (token : Int) : Bool := heldB tab n && decide ((getR tab n).token = token)
def tokT (S : Cfg) (now : Int) (tab : Tab) (w n : Str) (token : Int) : Tab :=
  if w = "lost" then (if (decide (sg S "hold" = "link") && validB tab n token) = true then backT S now tab n else tab)
  else if w = "finish" then movedT tab n "done" none
  else letT S now tab w n (heldB tab n)
def tokV (S : Cfg) (now : Int) (tab : Tab) (w n : Str) (token : Int) : D :=
  if w = "lost" then (if (decide (sg S "hold" = "link") && validB tab n token) = true then .bl (backV S now tab n) else .bl false)
  else if w = "finish" then .non
  else letV S now tab w n (heldB tab n)
def R_tok : Cfg → Int → Tab → List D → Tab → D → Prop := fun S now tab as tab' v => ∃ (w n : Str) (token : Int), as = [.str w, .str n, .int token] ∧ (tab.lookup n).isSome = true ∧ w ≠ "more" ∧ sg S "fence" ≠ "yes" ∧ tab' = tokT S now tab w n token ∧ v = tokV S now tab w n token
theorem sc_by_token : FnScope ["self", "word", "name", "token", "held", "valid"] ["self", "word", "name", "token"] (defScope s_Change_by_token) := ⟨rfl, rfl, rfl, by decide +kernel, rfl, by decide +kernel, by decide +kernel⟩
theorem h_by_token (T : Txt K mg) : Has P w K mg base 7 (atM "Change" "by_token" K) ["self", "word", "name", "token"] (spW K (preCh K R_tok)) := by
  obtain ⟨fd, F⟩ := f_Change_by_token T
  refine ⟨fd, okCh F sc_by_token (fun S now tab as tab' v h => ?_) fun cdv A outer s H E M c a t S now tab as tab' v hr hc ok hR => .inl ?_, F.bindsN fun _ _ _ _ _ _ us hl => match us, hl with | [_, _, _, _], _ => rfl, F.kp⟩
  · obtain ⟨w, n, held, rfl, _⟩ := h
    rfl
  · obtain ⟨w, n, token, rfl, hn, hw, hfe, rfl, rfl⟩ := hR
    have hi : ∀ tb H', (chA K t H tb).p H' → (insA K c (atG "Change" K) [("by", .ref a), ("when", .int now), ("table", .ref t)]).p H' := fun tb H' b => (chA_s hc H' b).ins
    have ht : ∀ tb H', (chA K t H tb).p H' → (tabA K t (tabD tb)).p H' := fun tb H' b => b.2
    have hd : Txt.isdigit ("link" : Str) = false := by decide +kernel
    refine ss_cons (s_set 4 sc_by_token.nd (e_is (d' := .bl (heldB tab n)) (e_eqS (e_ixT (e_tget (hu_of hr) (e_getF (cl_Change T) (na_Change_table T) (e_var 0) (hi tab) rfl) (e_var 2) (ht tab) (tabD_getR hn)) e_int (d := .str (getR tab n).place) rfl) e_str) rfl))
      (ss_cons (s_set 5 sc_by_token.nd (e_is (d' := .bl (validB tab n token)) (e_and2 (e_var 4) fun _ => e_eqI (e_ixT (e_tget (hu_of hr) (e_getF (cl_Change T) (na_Change_table T) (e_var 0) (hi tab) rfl) (e_var 2) (ht tab) (tabD_getR hn)) e_int (d := .int (getR tab n).token) rfl) (e_var 3)) rfl))
      (ss_if (k := decide (w = "lost")) (t_eqS (e_var 1) e_str) (fun h => ?r1) fun h => ?r2))
    case r1 =>
      unfold tokT tokV
      rw [if_pos (of_decide_eq_true h), if_pos (of_decide_eq_true h)]
      refine ss_one (s_ret (e_and (B := chA K t H tab) (k := decide (sg S "hold" = "link")) ?c (fun h1 => ?b) fun h1 => ⟨?d, ?e⟩))
      case c =>
        cases hl : limW (sg S "hold") with
        | none =>
          exact e_eqX (x := .str (sg S "hold")) (e_is (c_prop (cl_Setting T) (pr_hold T) (h_hold T) (hr.mono (by decide)) (e_getF (cl_Change T) (na_Change_by T) (e_var 0) (hi tab) rfl) (fun H' b => (chA_s hc H' b).setAt.ins) (spF_ok fun H' b => ⟨a, S, rfl, (chA_s hc H' b).setAt, hc.ok, rfl⟩)) (by show numW _ = _; rw [numW_lim, hl])) e_str (.str _) (.str _) rfl dec_s
        | some n =>
          refine e_eqX (x := .int n) (e_is (c_prop (cl_Setting T) (pr_hold T) (h_hold T) (hr.mono (by decide)) (e_getF (cl_Change T) (na_Change_by T) (e_var 0) (hi tab) rfl) (fun H' b => (chA_s hc H' b).setAt.ins) (spF_ok fun H' b => ⟨a, S, rfl, (chA_s hc H' b).setAt, hc.ok, rfl⟩)) (by show numW _ = _; rw [numW_lim, hl])) e_str (.int _) (.str _) rfl ?_
          rw [decide_eq_false (fun z => by cases z), decide_eq_false]
          intro z
          unfold limW at hl
          rw [z, if_neg (by rw [hd]; decide)] at hl
          cases hl
      case b =>
        rw [h1, Bool.true_and]
        cases hv : validB tab n token with
        | false =>
          rw [if_neg (by decide), if_neg (by decide)]
          exact e_and (k := false) (e_var 5) (fun h => by cases h) fun _ => ⟨rfl, fun _ h => h⟩
        | true =>
          rw [if_pos rfl, if_pos rfl]
          exact e_and (k := true) (e_var 5) (fun _ => e_one (c_meth (cl_Change T) (me_Change_back_now T) (h_back_now T) (hr.mono (by decide)) (e_var 0) (fun H' b => ch_nolk (hi _ H' b)) (a_one (e_var 2)) (ch_ok hc ok ⟨n, rfl, hn, rfl, rfl⟩))) fun h => by cases h
      case d => rw [h1] <;> rfl
      case e => rw [h1, Bool.false_and, if_neg (by decide)]; exact fun _ h => h
    case r2 =>
      unfold tokT tokV
      rw [if_neg (of_decide_eq_false h), if_neg (of_decide_eq_false h)]
      refine ss_cons (s_ifF (t_is (t_and (k := false) (j := true) (t_is (t_eqS (e_var 1) e_str) (decide_eq_false hw)) (fun h => by cases h)) rfl))
        (ss_cons (s_ifF (t_is (t_or (k := false) (j := false) (t_is (t_and (k := false) (j := true) (t_is (t_val (c_prop (cl_Setting T) (pr_fence T) (h_fence T) (hr.mono (by decide)) (e_getF (cl_Change T) (na_Change_by T) (e_var 0) (hi tab) rfl) (fun H' b => (chA_s hc H' b).setAt.ins) (spF_ok fun H' b => ⟨a, S, rfl, (chA_s hc H' b).setAt, hc.ok, rfl⟩))) (decide_eq_false hfe)) (fun h => by cases h)) rfl)
            fun _ => t_is (t_and (k := false) (j := true) (t_is (t_eqS (e_var 1) e_str) (decide_eq_false hw)) (fun h => by cases h)) rfl) rfl))
        (ss_if (k := decide (w = "finish")) (t_eqS (e_var 1) e_str) (fun h2 => ?s1) fun h2 => ?s2))
      case s1 =>
        rw [if_pos (of_decide_eq_true h2), if_pos (of_decide_eq_true h2)]
        exact ss_cons (s_expr (c_meth (cl_Change T) (me_Change_moved T) (h_moved T) (hr.mono (by decide)) (e_var 0) (fun H' b => ch_nolk (hi _ H' b)) (a_cons (e_var 2) (a_cons e_str (a_one e_non))) (ch_ok hc ok ⟨n, "done", none, rfl, hn, rfl, rfl⟩))) (ss_one (s_ret e_non))
      case s2 =>
        rw [if_neg (of_decide_eq_false h2), if_neg (of_decide_eq_false h2)]
        exact ss_cons (s_ifF (t_is (t_eqS (e_var 1) e_str) (decide_eq_false hw))) (ss_one (s_ret (c_meth (cl_Change T) (me_Change_let_go T) (h_let_go T) hr (e_var 0) (fun H' b => ch_nolk (hi _ H' b)) (a_cons (e_var 1) (a_cons (e_var 2) (a_one (e_var 4)))) (ch_ok hc ok ⟨w, n, heldB tab n, rfl, hn, rfl, rfl⟩))))
/-! ### take_many -/
theorem ch_okR {M : AS} {R : Cfg → Int → Tab → List D → Tab → D → Prop} {c a t : Addr} {S : Cfg} {now : Int} {tab tab' : Tab} {as : List D} {v : D} {H0 : Hp} {Q : As} (h : ChS K H0 c a t S now) (ok : TabOk tab) (hQ : ¬ Q.L t) (hR : R S now tab as tab' v) :
    SpOk K M (spW K (preCh K R)) ((chA K t H0 tab).and Q) (.ref c :: as) ((chA K t H0 tab').and Q) v := spW_ok (fun H b => ⟨c, a, t, S, now, tab, as, tab', v, rfl, chA_s h H b.1, b.1.2, ok, hR, rfl, rfl, rfl⟩) fun H H' b m q => ⟨⟨b.1.1.trans m, q⟩, Q.frame m (fun x hx l => absurd (List.mem_singleton.mp hx ▸ l) hQ) b.2⟩
theorem chA_putR {H0 : Hp} {t : Addr} {tab : Tab} {Q : As} (tab' : Tab) {es : List (Str × D)} (e : es = tabD tab') (hk : ∃ kvs, H0 t = some (.dK kvs)) (hQ : ¬ Q.L t) : ∀ (H : Hp) (u : HO), ((chA K t H0 tab).and Q).p H → (tabA K t es).p (upd H t u) → Fr (fun a => a ≠ t) H (upd H t u) → ((chA K t H0 tab').and Q).p (upd H t u) := fun H u b q f =>
  ⟨chA_put tab' e hk H u b.1 q f, Q.fr (f.less fun a l z => hQ (z ▸ l)) b.2⟩
def takeStep (S : Cfg) (now : Int) (n : Str) (s : Tab × List (Str × Int)) : Tab × List (Str × Int) :=
  let tab2 := if sg S "count" = "take" then triedT (movedT s.1 n "held" (untilM S now)) n else movedT s.1 n "held" (untilM S now)
  (setT tab2 n { getR tab2 n with token := (getR tab2 n).token + 1 }, s.2 ++ [(n, (getR tab2 n).token + 1)])
noncomputable def takeM (S : Cfg) (now : Int) (tab : Tab) (many : Int) : Tab × List (Str × Int) := (takenM S tab now many).foldl (fun s n => takeStep S now n s) (tab, [])
def tokD (p : Str × Int) : D := .tup [.str p.1, .int p.2]
theorem flat_tok : ∀ ps : List (Str × Int), flatL (ps.map tokD) = true
  | [] => rfl
  | p :: ps => flat_tok ps
theorem lookup_of_key {tab : Tab} {n : Str} (h : n ∈ tab.map (·.1)) : (tab.lookup n).isSome = true := by
  induction tab with
  | nil => simp at h
  | cons e tab ih =>
    rw [List.lookup_cons]
    by_cases z : n = e.1
    · rw [beq_iff_eq.mpr z] <;> rfl
    · rw [beq_eq_false_iff_ne.mpr z]
      exact ih ((List.mem_cons.mp h).resolve_left z)
theorem takenM_mem {S : Cfg} {tab : Tab} {now many : Int} {n : Str} (h : n ∈ takenM S tab now many) : n ∈ tab.map (·.1) := by
  unfold takenM at h
  obtain ⟨i, hi, rfl⟩ := List.mem_map.mp h
  obtain ⟨k, hk, rfl⟩ := batchM_mem hi
  rw [List.length_map] at hk
  rw [Int.toNat_natCast, List.getD_eq_getElem?_getD, List.getElem?_eq_getElem (by rw [List.length_map]; exact hk)]
  exact List.getElem_mem _
theorem takenM_len {S : Cfg} {tab : Tab} {now many : Int} : (takenM S tab now many).length ≤ tab.length := by
  unfold takenM
  rw [List.length_map]
  exact Nat.le_trans batchM_len (by rw [List.length_map]; exact Nat.le_refl _)
theorem movedT_ok {tab : Tab} {n p : Str} {tm : Option Int} (h : TabOk tab) (hp : p = "ready" → ∃ t, tm = some t) : TabOk (movedT tab n p tm) := setT_ok h hp
theorem takeStep_ok {S : Cfg} {now : Int} {n : Str} {s : Tab × List (Str × Int)} (h : TabOk s.1) (hn : (s.1.lookup n).isSome = true) : TabOk (takeStep S now n s).1 ∧ (takeStep S now n s).1.map (·.1) = s.1.map (·.1) := by
  have h1 : TabOk (movedT s.1 n "held" (untilM S now)) := movedT_ok h fun z => absurd z (by decide)
  have k1 : (movedT s.1 n "held" (untilM S now)).map (·.1) = s.1.map (·.1) := setT_keys _ _ _
  have n1 : ((movedT s.1 n "held" (untilM S now)).lookup n).isSome = true := by unfold movedT; rw [setT_isSome]; exact hn
  have key : ∀ tb : Tab, TabOk tb → tb.map (·.1) = s.1.map (·.1) → (tb.lookup n).isSome = true → TabOk (setT tb n { getR tb n with token := (getR tb n).token + 1 }) ∧ (setT tb n { getR tb n with token := (getR tb n).token + 1 }).map (·.1) = s.1.map (·.1) := fun tb a b d => ⟨setT_ok a fun z => getR_ok a d z, (setT_keys _ _ _).trans b⟩
  unfold takeStep
  by_cases hc : sg S "count" = "take"
  · rw [if_pos hc]
    exact key _ (triedT_ok h1 n1) ((setT_keys _ _ _).trans k1) (by unfold triedT; rw [setT_isSome]; exact n1)
  · rw [if_neg hc]
    exact key _ h1 k1 n1
def R_take : Cfg → Int → Tab → List D → Tab → D → Prop := fun S now tab as tab' v => ∃ (many : Int), as = [.int many] ∧ tab' = (takeM S now tab many).1 ∧ v = .lst ((takeM S now tab many).2.map tokD)
theorem sc_take_many : FnScope ["self", "many", "found", "name", "row"] ["self", "many"] (defScope s_Change_take_many) := ⟨rfl, rfl, rfl, by decide +kernel, rfl, by decide +kernel, by decide +kernel⟩
theorem h_take_many (T : Txt K mg) : Has P w K mg base 6 (atM "Change" "take_many" K) ["self", "many"] (spW K (preCh K R_take)) := by
  obtain ⟨fd, F⟩ := f_Change_take_many T
  refine ⟨fd, okCh F sc_take_many (fun S now tab as tab' v h => ?_) fun cdv A outer s H E M c a t S now tab as tab' v hr hc ok hR => .inl ?_, F.bindsN fun _ _ _ _ _ _ us hl => match us, hl with | [_, _], _ => rfl, F.kp⟩
  · obtain ⟨many, rfl, _⟩ := h
    rfl
  · obtain ⟨many, rfl, rfl, rfl⟩ := hR
    obtain ⟨kvs0, hk0⟩ := hc.tab
    refine ss_new 2 (fun q => .rt ((chA K t H (takeM S now tab many).1).and (lstA K q ((takeM S now tab many).2.map tokD))) (.ref q)) sc_take_many.nd (n_lst a_nil) rfl (fun q nM nL => ⟨?_, .rtL fun _ h => h⟩)
    have hqt : ¬ (lstA K q []).L t := fun z => nL (.inr z.symm)
    have nLx : ∀ {tb : Tab}, ¬ (chA K t H tb).L q := fun z => nL z
    have hi : ∀ tb fs H', ((chA K t H tb).and (lstA K q fs)).p H' → (insA K c (atG "Change" K) [("by", .ref a), ("when", .int now), ("table", .ref t)]).p H' := fun tb fs H' b => (chA_s hc H' b.1).ins
    have ht : ∀ tb fs H', ((chA K t H tb).and (lstA K q fs)).p H' → (tabA K t (tabD tb)).p H' := fun tb fs H' b => b.1.2
    refine ss_cons (s_forF (fun n s => takeStep S now n s) D.str (fun s => (chA K t H s.1).and (lstA K q (s.2.map tokD))) (fun s => [some (.ref c), some (.int many), some (.ref q), none, none]) (fun i s => TabOk s.1 ∧ s.1.map (·.1) = tab.map (·.1) ∧ s.2.length = i) (g := gName 3) (js := [3]) (tf := fOne 3) (takenM S tab now many) (tab, []) PassesOwn.never rfl
      (i_list (c_call (h_taken_names T) hr (g_taken_names T) (a_cons (e_getF (cl_Change T) (na_Change_by T) (e_var 0) (hi tab []) rfl) (a_cons (e_getF (cl_Change T) (na_Change_table T) (e_var 0) (hi tab []) rfl) (a_cons (e_getF (cl_Change T) (na_Change_when T) (e_var 0) (hi tab []) rfl) (a_one (e_var 1))))) (spF_ok fun H' b => ⟨a, t, S, tab, now, many, rfl, (chA_s hc H' b.1).setAt, hc.ok, b.1.2, ok.len, ok.row, rfl⟩))) (fun _ _ _ => trivial) rfl ⟨ok, rfl, rfl⟩ (pg_name (i := 3) sc_take_many.nd rfl (Or.inl rfl)) (tg_name 3) fun i n s hb hP => ?turn) (ss_one (s_ret (e_var 2)))
    case turn =>
      obtain ⟨tb, fs⟩ := s
      obtain ⟨h1, h2, h3⟩ := hP
      have h1 : TabOk tb := h1
      have h2 : tb.map (·.1) = tab.map (·.1) := h2
      have h3 : fs.length = i := h3
      have hmem : n ∈ takenM S tab now many := List.mem_of_getElem? hb
      have hn : (tb.lookup n).isSome = true := lookup_of_key (by rw [h2]; exact takenM_mem hmem)
      have hlt : i < sizeLine := Nat.lt_of_lt_of_le (List.getElem?_eq_some_iff.mp hb).1 (Nat.le_trans takenM_len (Nat.le_trans ok.len (by decide)))
      obtain ⟨k1, k2⟩ := takeStep_ok (S := S) (now := now) (n := n) (s := (tb, fs)) h1 hn
      refine ⟨_, rfl, ⟨k1, k2.trans h2, by show (fs ++ [_]).length = i + 1; rw [List.length_append, h3] <;> rfl⟩, ?_⟩
      have ok1 : TabOk (movedT tb n "held" (untilM S now)) := movedT_ok h1 fun z => absurd z (by decide)
      have n1 : ((movedT tb n "held" (untilM S now)).lookup n).isSome = true := by unfold movedT; rw [setT_isSome]; exact hn
      have hQ : ¬ (lstA K q (fs.map tokD)).L t := hqt
      have e0 : takeStep S now n (tb, fs) = (setT (if sg S "count" = "take" then triedT (movedT tb n "held" (untilM S now)) n else movedT tb n "held" (untilM S now)) n { getR (if sg S "count" = "take" then triedT (movedT tb n "held" (untilM S now)) n else movedT tb n "held" (untilM S now)) n with token := (getR (if sg S "count" = "take" then triedT (movedT tb n "held" (untilM S now)) n else movedT tb n "held" (untilM S now)) n).token + 1 }, fs ++ [(n, (getR (if sg S "count" = "take" then triedT (movedT tb n "held" (untilM S now)) n else movedT tb n "held" (untilM S now)) n).token + 1)]) := rfl
      obtain ⟨tb2, e2, ok2, n2⟩ : ∃ tb2, (if sg S "count" = "take" then triedT (movedT tb n "held" (untilM S now)) n else movedT tb n "held" (untilM S now)) = tb2 ∧ TabOk tb2 ∧ (tb2.lookup n).isSome = true := by
        refine ⟨_, rfl, ?_⟩
        by_cases hcn : sg S "count" = "take"
        · rw [if_pos hcn]
          exact ⟨triedT_ok ok1 n1, by unfold triedT; rw [setT_isSome]; exact n1⟩
        · rw [if_neg hcn]
          exact ⟨ok1, n1⟩
      rw [e0, e2]
      have em : (fs ++ [(n, (getR tb2 n).token + 1)]).map tokD = fs.map tokD ++ [tokD (n, (getR tb2 n).token + 1)] := by rw [List.map_append] <;> rfl
      show PSs _ _ (tO K (M.own q) ((chA K t H tb).and (lstA K q (fs.map tokD))) _ (.nx ((chA K t H (setT tb2 n { getR tb2 n with token := (getR tb2 n).token + 1 })).and (lstA K q ((fs ++ [(n, (getR tb2 n).token + 1)]).map tokD))) _))
      rw [em]
      refine ss_forget 3 (ss_forget 4 (ss_cons (s_expr (c_meth (cl_Change T) (me_Change_moved T) (h_moved T) (hr.mono (by decide)) (e_var 0) (fun H' b => ch_nolk (hi _ _ H' b)) (a_cons (e_var 3) (a_cons e_str (a_one (c_meth0 (cl_Change T) (me_Change_until T) (h_until T) (hr.mono (by decide)) (e_var 0) (fun H' b => ch_nolk (hi _ _ H' b)) (spF_ok fun H' b => ⟨c, a, t, S, now, rfl, chA_s hc H' b.1, rfl⟩))))) (ch_okR hc h1 hQ ⟨n, "held", untilM S now, rfl, hn, rfl, rfl⟩)))
        (ss_cons (B := (chA K t H tb2).and (lstA K q (fs.map tokD))) (δ' := [some (.ref c), some (.int many), some (.ref q), some (.str n), none]) ?ifst (ss_cons (s_set 4 sc_take_many.nd (e_tget (hu_of hr) (e_getF (cl_Change T) (na_Change_table T) (e_var 0) (hi tb2 (fs.map tokD)) rfl) (e_var 3) (ht tb2 (fs.map tokD)) (tabD_getR n2)))
          (ss_cons (s_tput (hu_of hr) (e_is (d' := rowD { getR tb2 n with token := (getR tb2 n).token + 1 }) (e_catT (e_catT (e_slT (e_var 4) o_none (o_some e_int)) (e_tup (a_one (e_add (e_ixT (e_var 4) e_int (d := .int (getR tb2 n).token) rfl) e_int))) (Nat.le_trans (Nat.le_of_ble_eq_true (rfl : Nat.ble _ 100 = true)) (by decide))) (e_slT (e_var 4) (o_some e_int) o_none) (Nat.le_trans (Nat.le_of_ble_eq_true (rfl : Nat.ble _ 100 = true)) (by decide))) rfl)
              (e_getF (cl_Change T) (na_Change_table T) (e_var 0) (hi tb2 (fs.map tokD)) rfl) (e_var 3) (ht tb2 (fs.map tokD)) (rowD_flat _) (by rw [tabD_len]; exact Nat.lt_of_le_of_lt ok2.len (by decide)) (chA_putR _ (tabD_setT n2 _).symm ⟨kvs0, hk0⟩ hQ))
            (ss_one (s_oapp (e_var 2) (e_tup (a_cons (e_var 3) (a_one (e_add (e_ixT (e_var 4) e_int (d := .int (getR tb2 n).token) rfl) e_int)))) (.inr rfl) (fun _ b => b.2) (fun _ b => b.2) rfl (by rw [List.length_map, h3]; exact hlt) (fun H' xs ys b e l => ⟨(chA K t H _).stab e nLx b.1, l⟩))))))))
      case ifst =>
        refine s_if (k := decide (sg S "count" = "take")) (t_eqS (c_prop (cl_Setting T) (pr_counted T) (h_counted T) (hr.mono (by decide)) (e_getF (cl_Change T) (na_Change_by T) (e_var 0) (hi (movedT tb n "held" (untilM S now)) (fs.map tokD)) rfl) (fun H' b => (chA_s hc H' b.1).setAt.ins) (spF_ok fun H' b => ⟨a, S, rfl, (chA_s hc H' b.1).setAt, hc.ok, rfl⟩)) e_str) (fun h => ?_) fun h => ?_
        · rw [if_pos (of_decide_eq_true h)] at e2
          subst e2
          exact ss_one (s_expr (c_meth (cl_Change T) (me_Change_tried T) (h_tried T) (hr.mono (by decide)) (e_var 0) (fun H' b => ch_nolk (hi _ _ H' b)) (a_one (e_var 3)) (ch_okR hc ok1 hQ ⟨n, rfl, n1, rfl, rfl⟩)))
        · rw [if_neg (of_decide_eq_false h)] at e2
          subst e2
          exact ss_nil
theorem s_eq {X : Cx} {M : AS} {A B : As} {δ δ1 δ2 : LS} {st : Stmt} (h : PS X st (tO X.K M A δ (.nx B δ1))) (e : δ1 = δ2) : PS X st (tO X.K M A δ (.nx B δ2)) := e ▸ h
/-! ### follow_up -/
def yetB (n : Str) (r : QRow) : Bool := decide (r.own.origin = some n) && decide (r.place = "yet")
def followL (tab : Tab) (n : Str) : List Str := (tab.filter fun e => yetB n e.2).map (·.1)
def followT (now : Int) (tab : Tab) (n : Str) : Tab := (followL tab n).foldl (fun tb one => movedT tb one "ready" (some now)) tab
def fYet (n : Str) : D → Bool
  | .tup [_, .tup [.tup [_, _, .str o], .str p, _, _, _, _, _]] => decide (o = n) && decide (p = "yet")
  | _ => false
theorem fYet_row (n k : Str) (r : QRow) : fYet n (entD (k, rowD r)) = yetB n r := by
  obtain ⟨⟨key, weight, origin⟩, place, time, tries, token, effects, last⟩ := r
  cases origin with
  | none => rfl
  | some o =>
    show (decide (o = n) && decide (place = "yet")) = (decide (some o = some n) && decide (place = "yet"))
    by_cases h : o = n
    · subst h; simp
    · rw [decide_eq_false h, decide_eq_false fun z => h (Option.some.inj z)]
def fFst : D → D
  | .tup (x :: _) => x
  | _ => .non
theorem follow_map (tab : Tab) (n : Str) : ((((tabD tab).map entD).filter (fYet n)).map fFst) = (followL tab n).map D.str := by
  unfold followL tabD
  induction tab with
  | nil => rfl
  | cons e tab ih =>
    have hb : fYet n (entD (e.1, rowD e.2)) = yetB n e.2 := fYet_row n e.1 e.2
    rw [List.map_cons, List.map_cons, List.filter_cons, List.filter_cons, hb]
    cases h : yetB n e.2 with
    | true => exact congrArg (D.str e.1 :: ·) ih
    | false => exact ih
def R_fol : Cfg → Int → Tab → List D → Tab → D → Prop := fun S now tab as tab' v => ∃ (n : Str), as = [.str n] ∧ tab' = followT now tab n ∧ v = .lst ((followL tab n).map D.str)
theorem sc_follow_up : FnScope ["self", "name", "found", "one", "row"] ["self", "name"] (defScope s_Change_follow_up) := ⟨rfl, rfl, rfl, by decide +kernel, rfl, by decide +kernel, by decide +kernel⟩
theorem h_follow_up (T : Txt K mg) : Has P w K mg base 2 (atM "Change" "follow_up" K) ["self", "name"] (spW K (preCh K R_fol)) := by
  obtain ⟨fd, F⟩ := f_Change_follow_up T
  refine ⟨fd, okCh F sc_follow_up (fun S now tab as tab' v h => ?_) fun cdv A outer s H E M c a t S now tab as tab' v hr hc ok hR => .inl ?_, F.bindsN fun _ _ _ _ _ _ us hl => match us, hl with | [_, _], _ => rfl, F.kp⟩
  · obtain ⟨n, rfl, _⟩ := h
    rfl
  · obtain ⟨n, rfl, rfl, rfl⟩ := hR
    have hi : ∀ tb H', (chA K t H tb).p H' → (insA K c (atG "Change" K) [("by", .ref a), ("when", .int now), ("table", .ref t)]).p H' := fun tb H' b => (chA_s hc H' b).ins
    have ht : ∀ tb H', (chA K t H tb).p H' → (tabA K t (tabD tb)).p H' := fun tb H' b => b.2
    have hct : c ≠ t := fun z => by
      obtain ⟨dx, fs, h1, _⟩ := hc.ins
      obtain ⟨kvs, h2⟩ := hc.tab
      rw [z, h2] at h1
      cases h1
    have hz : tab.length < sizeLine := Nat.lt_of_le_of_lt ok.len (by decide)
    refine ss_cons (B := chA K t H tab) (δ' := [some (.ref c), some (.str n), some (.lst ((followL tab n).map D.str)), none, none]) (s_lock (ht tab) fun od kvs => ?comp)
      (ss_cons (s_forF (fun one tb => movedT tb one "ready" (some now)) D.str (fun tb => chA K t H tb) (fun _ => [some (.ref c), some (.str n), some (.lst ((followL tab n).map D.str)), none, none]) (fun i tb => TabOk tb ∧ tb.map (·.1) = tab.map (·.1)) (g := gName 3) (js := [3]) (tf := fOne 3) (followL tab n) tab PassesOwn.never rfl (i_list (e_var 2)) (fun _ _ _ => trivial) rfl ⟨ok, rfl⟩ (pg_name (i := 3) sc_follow_up.nd rfl (Or.inl rfl)) (tg_name 3) fun i one tb hb hP => ?turn) (ss_one (s_ret (e_var 2))))
    case comp =>
      refine s_eq (s_lcP (i := 2) (own := [("one", 3), ("row", 4)]) (fYet n) fFst rfl sc_follow_up.nd rfl rfl (sw_true rfl rfl rfl (by decide +kernel)) (blkOk_by (N := ["self", "name", "found", "one", "row"]) (sc := defScope s_Change_follow_up) (by decide +kernel)) (i_items (B := chA K t H tab) (e_fld (e_var 0) fun H' b => ?fld) (ht tab)) (fun H' b => b.1) (fun _ _ _ _ _ => pg_tup rfl (pgs_cons (pg_name (i := 3) sc_follow_up.nd rfl (Or.inl rfl)) (pgs_cons (pg_name (i := 4) sc_follow_up.nd rfl (Or.inl rfl)) pgs_nil))) (tg_pair 3 4) (by simp) (by rw [List.length_map, tabD_len]; exact hz) (fun M' _ _ d hd => ?tt)) ?ee
      case fld =>
        obtain ⟨dx, fs, h1, h2⟩ := (chA_s hc _ b.2.2).ins
        rw [upd_ne hct] at h1
        obtain ⟨v, h3, h4, _⟩ := h2.get (M := M) (k := "table") (d := .ref t) rfl
        have h4 := h4.ref_inv
        subst h4
        exact ⟨_, dx, fs, _, h1, cl_Change T, na_Change_table T, h3, .ref t⟩
      case tt =>
        obtain ⟨e, he, rfl⟩ := List.mem_map.mp hd
        unfold tabD at he
        obtain ⟨e, he, rfl⟩ := List.mem_map.mp he
        refine ⟨_, rfl, fun _ _ _ _ _ => ts_one (t_is (t_and ?c1 fun _ => t_eqS (e_ixT (e_var 4 (d := rowD e.2)) e_int (d := .str e.2.place) rfl) e_str) (fYet_row n e.1 e.2).symm), fun _ _ _ _ _ _ => e_var 3⟩
        cases ho : e.2.own.origin with
        | none => exact t_is (t_eqX (v := .non) (e_ixT (e_ixT (e_var 4 (d := rowD e.2)) e_int (d := ownD e.2.own) rfl) e_int (d := .non) (by rw [ho] <;> rfl)) (e_var 1) .non (.str n) rfl rfl) (by rw [decide_eq_false (fun z => by cases z)]; exact (decide_eq_false (fun z => by cases z)).symm)
        | some o => exact t_is (t_eqX (v := .str o) (e_ixT (e_ixT (e_var 4 (d := rowD e.2)) e_int (d := ownD e.2.own) rfl) e_int (d := .str o) (by rw [ho] <;> rfl)) (e_var 1) (.str o) (.str n) rfl dec_s) (by
            by_cases h : o = n
            · subst h; simp
            · rw [decide_eq_false h, decide_eq_false fun z => h (Option.some.inj z)])
      case ee => rw [follow_map] <;> rfl
    case turn =>
      obtain ⟨h1, h2⟩ := hP
      have hn : (tb.lookup one).isSome = true := by
        refine lookup_of_key ?_
        rw [h2]
        have := List.mem_of_getElem? hb
        unfold followL at this
        obtain ⟨e, he, rfl⟩ := List.mem_map.mp this
        exact List.mem_map_of_mem (List.mem_filter.mp he).1
      refine ⟨_, rfl, ⟨movedT_ok h1 fun _ => ⟨_, rfl⟩, (setT_keys _ _ _).trans h2⟩, ss_forget 3 (ss_one (s_expr (c_meth (cl_Change T) (me_Change_moved T) (h_moved T) (hr.mono (by decide)) (e_var 0) (fun H' b => ch_nolk (hi _ H' b)) (a_cons (e_var 3) (a_cons e_str (a_one (e_getF (cl_Change T) (na_Change_when T) (e_var 0) (hi tb) rfl)))) (ch_ok hc h1 ⟨one, "ready", some now, rfl, hn, rfl, rfl⟩))))⟩
end
end RQ
set_option Elab.async false
set_option linter.all false
set_option maxRecDepth 100000
set_option maxHeartbeats 4000000
namespace Dx
open PySem PySem.Spec PyProof.Rows L2
section
variable {prog : Program} {w : World} {A : Around} {E : Value → Shared → Prop} {s : Shared}
/-- x, *r = a tuple -/
theorem unpackStar {l : Addr} {items : Array Value} {x : Value} {r : List Value} {Q : List Value → Shared → Prop} (hl : IsTup s.heap l items) (hh : A.handled = none) (he0 : items.toList = x :: r) (hz : items.size ≤ 16384)
    (h : ∀ h' tk, Heap.ExtBut s.heap.objs.size s.heap h' → Q [x, .ref h'.objs.size] { s with heap := h'.push { cls := .type "list", data := .seq r.toArray }, toks := tk }) : wpAny (model prog w) A (unpackItems (.ref l) 2 (some 1)) Q E s := by
  have hlt : l ≠ s.heap.objs.size := by obtain ⟨o, ho, _⟩ := hl; exact Nat.ne_of_lt (Heap.lt_size ho)
  have hll : l < s.heap.objs.size := by obtain ⟨o, ho, _⟩ := hl; exact Heap.lt_size ho
  have hsz : items.size = r.length + 1 := by rw [← Array.length_toList, he0, List.length_cons]
  unfold unpackItems
  refine wpAny_bind ?_
  unfold notIterableAtAll
  refine wpAny_bind (wpAny_specialOf hl.typeIs PyProof.Rows.slot_tuple_iter.lookup ?_)
  refine wpAny_pure ?_
  simp only [Bool.false_eq_true, if_false]
  refine wpAny_bind (wpAny_holding (iter_tuple hl ?_))
  refine wpAny_bind (wpAny_holding (draw_tuple hlt 1 0 _ _ ⟨_, Heap.get?_push_size _ rfl, rfl, rfl⟩ (hl.push _) (by omega) fun h₁ hit₁ hs₁ => ?_))
  have hl₁ : IsTup h₁ l items := (hl.push _).extBut hs₁.extBut hlt
  rw [Nat.zero_add] at hit₁
  have hit₁' := hit₁
  obtain ⟨oi, hoi, _⟩ := hit₁'
  have hl₁' := hl₁
  obtain ⟨ol, hol, _⟩ := hl₁'
  rw [List.drop_zero, he0]
  show wpAny _ _ (if (([x] : List Value).length < 1) then _ else _) _ _ _
  rw [if_neg (show ¬ (([x] : List Value).length < 1) by show ¬ (1 < 1); omega)]
  refine wpAny_bind (wpAny_holding (PySem.W.kun_collect (s := { s with heap := h₁ }) (T := "tuple_iterator") (.inr (.inr (.inr rfl))) (Walks.tuple (A := A.in1) hh s.heap.objs.size l hlt items) (fun j u st => st.1.typeIs) (k := 1) (by omega) ⟨hit₁, hl₁⟩ (Heap.lt_size hoi) (Heap.lt_size hol) (fun h₂ tk hk => ?_) (by rw [sizeLine_eq]; omega)))
  rw [he0]
  show wpAny _ _ (if r.length < 0 then _ else _) _ _ _
  rw [if_neg (by omega)]
  show wpAny _ _ (newList (r.take (r.length - 0)) >>= fun d => pure ([x] ++ [d] ++ r.drop (r.length - 0))) _ _ _
  rw [Nat.sub_zero, List.take_length, List.drop_length]
  have he : Heap.ExtBut s.heap.objs.size s.heap h₂ := fun b o hb e => hk b o hb (hs₁.extBut b o hb (Heap.get?_push_of_some _ e))
  refine wpAny_bind (wpAny_newList (s := { s with heap := h₂, toks := tk }) (wpAny_pure ?_) (by rw [sizeLine_eq]; omega))
  exact h h₂ tk he
end
section
variable {X : Cx} {pos : Pos}
theorem pgs_star {e : Expr} {sp : Pos} {es : List Expr} {t : TG} {u : TGs} (h1 : PG X e t) (h2 : PGs X es u) (hs : (assignEach (.Starred e sp :: es) X.env).map (·.2) = assign e X.env :: (assignEach es X.env).map (·.2) := by rfl) : PGs X (.Starred e sp :: es) (gCons t u) := by
  refine ⟨fun pins s σ H vs us Q I r h => ?_⟩
  obtain ⟨v, vr, e1, h⟩ := h
  subst e1
  cases r with
  | cons r rr =>
    rw [hs]
    refine assignInOrder_cons (thn (h1.run pins s σ H _ _ _ I r h) fun _ s1 ⟨σ1, H1, I1, q1⟩ => ?_)
    exact h2.run pins s1 σ1 H1 _ _ Q I1 rr q1
def gStar (K : PySem.W.Frag) (t : TGs) : TG := fun v σ H Q => ∃ a x xs, v = .ref a ∧ SqT K H a (x :: xs) ∧ xs.length ≤ 100 ∧ ∀ p, H p = none → t [x, .ref p] σ (upd H p (.lst xs)) Q
theorem pg_star {es : List Expr} {k : Nat} {t : TGs} (hc : X.calm = true) (h : PGs X es t) (hn : (assignEach es X.env).length = 2 := by rfl) (hst : (assignEach es X.env).findIdx? (·.1) = some 1 := by rfl) : PG X (.Tuple es k pos) (gStar X.K t) := by
  refine ⟨fun pins s σ H v u Q I r hw => ?_⟩
  obtain ⟨a, x, xs, e1, hq, hl, hw⟩ := hw
  subst e1
  cases r
  obtain ⟨its, rv, ht, hz⟩ := I.tuple hq
  cases rv with
  | cons rx rr =>
    rename_i u us
    have hlen := rr.length
    rw [assign_Tuple]
    refine wpAny_bind (wpAny_standAt ?_)
    unfold unpack
    rw [hn, hst]
    refine wpAny_bind (wpAny_holding (unpackStar (x := u) (r := us) ht (I.ok.hd hc) rfl (by rw [List.size_toArray, List.length_cons]; omega) fun h' tk hx => ?_))
    have I1 : Inv X pins σ H { s with heap := h', toks := tk } := I.kept (t' := tk) fun b o e => hx b o (Nat.ne_of_lt (Heap.lt_size e)) e
    have I2 : Inv X pins σ (upd H h'.objs.size (.lst xs)) { s with heap := h'.push { cls := .type "list", data := .seq us.toArray }, toks := tk } :=
      I1.laid (a := h'.objs.size) (t' := tk) (fun b o e => Heap.get?_push_of_some _ e) (Nat.le_refl _) (show ObjOk X.prog X.w _ _ _ (.lst xs) from ⟨by rw [sizeLine_eq]; omega, us, 0, rr, Heap.get?_push_size _ rfl⟩)
    exact h.run pins _ σ _ [x, .ref h'.objs.size] [u, .ref h'.objs.size] Q I2 (.cons rx (.cons rfl .nil)) (hw _ (I1.hok.fresh (Nat.le_refl _)))
variable {M : AS} {A B : As} {δ : LS} {e : Expr}
/-- x, *y = a tuple: y a new list of data -/
theorem s_star {i j : Nat} {es : List Expr} {kt : Nat} {tp : Pos} {d : D} {ds : List D} (he : PE X e (tC X.K M A δ B (.tup (d :: ds)))) (hc : X.calm = true) (hg : PGs X es (gCons (gName i) (gCons (gName j) gNil))) (hz : ds.length ≤ 100) (hn : (assignEach es X.env).length = 2 := by rfl) (hst : (assignEach es X.env).findIdx? (·.1) = some 1 := by rfl)
    (hs : swapsWithSole [.Tuple es kt tp] e pos.line X.env = pure false := by rfl) (hw : swappedStores [.Tuple es kt tp] e X.env = pure none := by rfl)
    (h1 : (assignEach [.Tuple es kt tp] X.env).map (·.2) = [assign (.Tuple es kt tp) X.env] := by rfl) : PS X (.Assign [.Tuple es kt tp] e pos) (tO X.K M A δ (.nx B ((δ.set i (some d)).set j (some (.lst ds))))) :=
  ps_imp (ps_asg he (pg_star hc hg hn hst) hs hw h1) fun E σ H ⟨s, q⟩ => ⟨s, fun v H1 k1 b1 r1 => by
    obtain ⟨a, xs, rfl, h1, l1⟩ := r1.tup_inv
    cases l1 with
    | cons rx rr =>
      rename_i x xs
      refine ⟨a, x, xs, rfl, h1, by rw [rr.length]; exact hz, fun p hp => ?_⟩
      have kn : Kp M H1 (upd H1 p (.lst xs)) := .new hp
      have rl : Rp X.K M (upd H1 p (.lst xs)) (.ref p) (.lst ds) := .lst upd_same (tr_new (tr_kp s.tr k1) hp) (Same.newK hp rr)
      exact ⟨_, _, rfl, _, _, rfl, rfl, q _ _ (k1.trans kn) (B.mono (Same.new hp) b1) ((((s.s.kp k1).kp kn).set i (rx.kp kn _ _)).set j rl)⟩⟩
end
section
def tMethL (K : PySem.W.Frag) (C : Addr) (m : Str) (g : Addr) (sp : Sp) (E : XK) (ta te : TE) : TE := fun σ H Q => ta σ H fun x H1 => ∃ a dx fs, x = .ref a ∧ H1 a = some (.ins C dx fs) ∧ fs.lookup m = none ∧
  ∀ q, H1 q = none → te σ (upd H1 q (.met g a)) fun y H2 => ∃ b vs, y = .ref b ∧ (SqT K H2 b vs ∨ SqL K H2 b vs) ∧ H2 q = some (.met g a) ∧ sp (.ref a :: vs) H2 Q E
/-- o.m( *e), e a tuple or a list -/
theorem pe_methL {X : Cx} {CX : CXT} {k : Nat} {C g : Addr} {m : Str} {sp : Sp} {E : XK} {o e : Expr} {ta te : TE} {p apos pos : Pos} (he : PE X o ta) (c : Cls X.K C) (b : BMeth X.K C m g) (F : FnR X.prog X.w X.K X.mg X.base CX k g sp) (hr : Room k X.A)
    (hx : Passes CX X E) (ha : PE X e te) (hbase : attributeBase o m X.env (eval o X.env) = eval o X.env := by rfl) : PE X (.Call (.Attribute o m apos) [.Starred e p] [] pos) (tMethL X.K C m g sp E ta te) := by
  refine ⟨fun pins s σ H Q I h => ?_⟩
  refine starcall_of hbase (thn (he.run pins s σ H _ I h) fun u s1 ⟨x, H1, I1, rx, a, dx, fs, ex, ea, l, q⟩ => ?_)
  subst ex
  obtain rfl : u = Value.ref a := rx
  refine getbound_ok I1 ea c b l fun q1 s2 hq1 I2 => ?_
  refine PySem.W.ks_call (P := PySem.W.MethP X.K q1 g (.ref a)) rfl (PySem.W.keeps_M b.fi) (PySem.W.ks_lone ?_)
  refine thn (ha.run pins s2 σ _ _ I2 (q q1 hq1)) fun v s3 ⟨y, H2, I3, ry, t, vs, ey, ht, hm, hsp⟩ => ?_
  subst ey
  obtain rfl : v = Value.ref t := ry
  refine StX.star_any I3 ht fun us s4 I4 rv => ⟨met_P I4 hm, ?_⟩
  exact wpAny_call (PySem.W.method_call (met_P I4 hm).1 (run_fnR (us := Value.ref a :: us) (vs := V.ref a :: vs) F hr hx I4 (.cons rfl rv) hsp))
end
section
variable {X : Cx} {M : AS} {A B C G : As} {δ δ' : LS} {pos p p2 apos : Pos} {d d1 : D} {a b e e1 e2 o : Expr} {k : Nat} {f : Addr} {ps : List Str} {sp : Sp} {ds : List D}
theorem Has.raw (F : Has X.prog X.w X.K X.mg X.base k f ps sp) : FnR X.prog X.w X.K X.mg X.base CX0 k f sp := by
  obtain ⟨fd, F, hb, _⟩ := F
  exact (F.raw hb .nil).imp fun vs H Q E h => by rw [List.append_nil]; exact h
/-- o.m( *e), e a list of data -/
theorem c_methL {m : Str} {Cl q : Addr} (cl : Cls X.K Cl) (bm : BMeth X.K Cl m f) (F : Has X.prog X.w X.K X.mg X.base k f ps sp) (hr : Room k X.A) (ho : PE X o (tC X.K M A δ A (.ref q)))
    (hi : ∀ H, A.p H → ∃ dx fs, H q = some (.ins Cl dx fs) ∧ fs.lookup m = none) (ha : ∀ R : As, PE X e (tC X.K M (A.and R) δ (A.and R) (.lst ds))) (h : SpOk X.K M sp A (.ref q :: ds) G d)
    (hbase : attributeBase o m X.env (eval o X.env) = eval o X.env := by rfl) : PE X (.Call (.Attribute o m apos) [.Starred e p] [] pos) (tC X.K M A δ G d) := by
  have hany : PE X e (fun σ H Q => ∃ t, PE X e t ∧ t σ H Q) := ⟨fun pins s σ H Q I ⟨t, h, q⟩ => h.run pins s σ H Q I q⟩
  exact pe_imp (pe_methL ho cl bm F.raw hr pass0 hany hbase) fun σ H Q ⟨s, q'⟩ => ⟨s, fun v H1 k1 b1 r1 => by
    cases r1
    obtain ⟨dx, fs, e1, e2⟩ := hi H1 b1
    refine ⟨_, dx, fs, rfl, e1, e2, fun qm hq => ⟨_, ha (objA qm (.met f q)), ?_, fun y H2 k2 b2 r2 => ?_⟩⟩
    · exact (s.kp k1 b1).kp (B := A.and (objA qm (.met f q))) (.new hq) ⟨A.mono (Same.new hq) b1, upd_same⟩
    · obtain ⟨p1, xs, rfl, h1, m1, l1⟩ := r2.lst_inv
      have kk := (k1.trans (.new hq)).trans k2
      exact ⟨p1, xs, rfl, .inr (SqL.of h1), b2.2, h H2 _ Q b2.1 (tr_kp s.tr kk) (.cons (.ref _) l1) fun v H3 k3 c3 r3 => q' v H3 (kk.trans k3) c3 r3⟩⟩
/-- o.m(e1, *e2) -/
theorem c_methSB {m : Str} {Cl q : Addr} (cl : Cls X.K Cl) (bm : BMeth X.K Cl m f) (F : Has X.prog X.w X.K X.mg X.base k f ps sp) (hr : Room k X.A) (ho : PE X o (tC X.K M A δ A (.ref q)))
    (hi : ∀ H, A.p H → ∃ dx fs, H q = some (.ins Cl dx fs) ∧ fs.lookup m = none) (h1 : ∀ R : As, PE X e1 (tC X.K M (A.and R) δ (A.and R) d1)) (ha : ∀ R : As, PE X e2 (tC X.K M (A.and R) δ (A.and R) (.lst ds))) (h : SpOk X.K M sp A (.ref q :: d1 :: ds) G d)
    (hbase : attributeBase o m X.env (eval o X.env) = eval o X.env := by rfl) (hst : starEach [e1, .Starred e2 p] X.env = [(false, eval e1 X.env), (true, eval e2 X.env)] := by rfl) : PE X (.Call (.Attribute o m apos) [e1, .Starred e2 p] [] pos) (tC X.K M A δ G d) := by
  have hany : ∀ e, PE X e (fun σ H Q => ∃ t, PE X e t ∧ t σ H Q) := fun e => ⟨fun pins s σ H Q I ⟨t, h, q⟩ => h.run pins s σ H Q I q⟩
  exact pe_imp (pe_methSB ho cl bm F.raw hr pass0 (hany e1) (hany e2) hbase hst) fun σ H Q ⟨s, q'⟩ => ⟨s, fun v H1 k1 b1 r1 => by
    cases r1
    obtain ⟨dx, fs, e1, e2⟩ := hi H1 b1
    have sR : ∀ qm, H1 qm = none → St0 X.K M (A.and (objA qm (.met f q))) δ σ (upd H1 qm (.met f q)) := fun qm hq => (s.kp k1 b1).kp (.new hq) ⟨A.mono (Same.new hq) b1, upd_same⟩
    refine ⟨_, dx, fs, rfl, e1, e2, fun qm hq => ⟨_, h1 (objA qm (.met f q)), sR qm hq, fun y1 H2 k2 b2 r2 => ⟨_, ha (objA qm (.met f q)), (sR qm hq).kp k2 b2, fun y2 H3 k3 b3 r3 => ?_⟩⟩⟩
    obtain ⟨p1, xs, rfl, h1, m1, l1⟩ := r3.lst_inv
    have kk := ((k1.trans (.new hq)).trans k2).trans k3
    exact ⟨p1, xs, rfl, .inr (SqL.of h1), b3.2, h H3 _ Q b3.1 (tr_kp s.tr kk) (.cons (.ref _) (.cons (r2.kp k3 _ _) l1)) fun v H4 k4 c4 r4 => q' v H4 (kk.trans k4) c4 r4⟩⟩
end
end Dx
set_option Elab.async false
set_option linter.all false
set_option maxRecDepth 100000
set_option maxHeartbeats 4000000
namespace RQ
open PySem PySem.Spec PyProof.Rows L2 Dx
/-! ### deeds -/
inductive Deed where
  | put (n key : Str) (weight due : Int) (origin : Option Str) | take (many : Int) | eff (n : Str) | fol (n : Str) | tok (w n : Str) (token : Int)
def deedD : Deed → D
  | .put n key weight due origin => .tup [.str "put", .str n, .str key, .int weight, .int due, oD origin]
  | .take many => .tup [.str "take", .int many]
  | .eff n => .tup [.str "effect", .str n]
  | .fol n => .tup [.str "follow", .str n]
  | .tok w n token => .tup [.str w, .str n, .int token]
noncomputable def doneM (S : Cfg) (now : Int) (tab : Tab) : Deed → Tab × D
  | .put n key weight due origin => (tab ++ [(n, putRow now key weight due origin)], .non)
  | .take many => ((takeM S now tab many).1, .lst ((takeM S now tab many).2.map tokD))
  | .eff n => ((if rememberedM S (getR tab n) now = true then tab else effT now tab n), .bl (!rememberedM S (getR tab n) now))
  | .fol n => (followT now tab n, .lst ((followL tab n).map D.str))
  | .tok w n token => (tokT S now tab w n token, tokV S now tab w n token)
def DeedOk (S : Cfg) (tab : Tab) : Deed → Prop
  | .put n key weight due origin => tab.lookup n = none ∧ tab.length < 200 ∧ ∀ o, origin = some o → (tab.lookup o).isSome = true
  | .take _ => True
  | .eff n => (tab.lookup n).isSome = true
  | .fol n => (tab.lookup n).isSome = true
  | .tok w n _ => (tab.lookup n).isSome = true ∧ w ∈ [("finish" : Str), "fail", "give", "lost"] ∧ sg S "fence" ≠ "yes"
def R_res : Cfg → Int → Tab → List D → Tab → D → Prop := fun S now tab as tab' v => ∃ dd : Deed, as = [deedD dd] ∧ DeedOk S tab dd ∧ tab' = (doneM S now tab dd).1 ∧ v = (doneM S now tab dd).2
section
variable {P : Program} {w : World} {K : PySem.W.Frag} {mg : Str → Option Value} {base : Heap}
theorem sc_result : FnScope ["self", "deed", "word", "rest"] ["self", "deed"] (defScope s_Change_result) := ⟨rfl, rfl, rfl, by decide +kernel, rfl, by decide +kernel, by decide +kernel⟩
theorem h_result (T : Txt K mg) : Has P w K mg base 8 (atM "Change" "result" K) ["self", "deed"] (spW K (preCh K R_res)) := by
  obtain ⟨fd, F⟩ := f_Change_result T
  refine ⟨fd, okCh F sc_result (fun S now tab as tab' v h => ?_) fun cdv A outer s H E M c a t S now tab as tab' v hr hc ok hR => .inl ?_, F.bindsN fun _ _ _ _ _ _ us hl => match us, hl with | [_, _], _ => rfl, F.kp⟩
  · obtain ⟨dd, rfl, _⟩ := h
    rfl
  · obtain ⟨dd, rfl, hd, rfl, rfl⟩ := hR
    have hi : ∀ tb H', (chA K t H tb).p H' → (insA K c (atG "Change" K) [("by", .ref a), ("when", .int now), ("table", .ref t)]).p H' := fun tb H' b => (chA_s hc H' b).ins
    have ht : ∀ tb H', (chA K t H tb).p H' → (tabA K t (tabD tb)).p H' := fun tb H' b => b.2
    have hiR : ∀ tb H', (chA K t H tb).p H' → ∃ dx fs, H' c = some (.ins (atG "Change" K) dx fs) := fun tb H' b => let ⟨dx, fs, h1, _⟩ := hi tb H' b; ⟨dx, fs, h1⟩
    cases dd with
    | put n key weight due origin =>
      obtain ⟨h1, h2, h3⟩ := hd
      refine ss_cons (s_star (d := .str "put") (ds := [.str n, .str key, .int weight, .int due, oD origin]) (e_var 1) rfl (pgs_cons (pg_name (i := 2) sc_result.nd rfl (Or.inl rfl)) (pgs_star (pg_name (i := 3) sc_result.nd rfl (Or.inl rfl)) pgs_nil)) (by show 5 ≤ 100; decide))
        (ss_stop (s_ifT (t_is (t_eqS (e_var 2) e_str) (by decide)) (ss_one (s_ret (c_methL (cl_Change T) (bm_put_new T) (h_put_new T) (hr.mono (by decide)) (e_var 0) (fun H' b => ch_nolk (hi _ H' b)) (fun R => e_var 3) (ch_ok hc ok ⟨n, key, weight, due, origin, rfl, h1, h2, h3, rfl, rfl⟩))))))
    | take many =>
      refine ss_cons (s_star (d := .str "take") (ds := [.int many]) (e_var 1) rfl (pgs_cons (pg_name (i := 2) sc_result.nd rfl (Or.inl rfl)) (pgs_star (pg_name (i := 3) sc_result.nd rfl (Or.inl rfl)) pgs_nil)) (by show 1 ≤ 100; decide))
        (ss_cons (s_ifF (t_is (t_eqS (e_var 2) e_str) (by decide))) (ss_stop (s_ifT (t_is (t_eqS (e_var 2) e_str) (by decide)) (ss_one (s_ret (c_meth (cl_Change T) (me_Change_take_many T) (h_take_many T) (hr.mono (by decide)) (e_var 0) (fun H' b => ch_nolk (hi _ H' b)) (a_one (e_ixL (e_var 3) e_int rfl)) (ch_ok hc ok ⟨many, rfl, rfl, rfl⟩)))))))
    | eff n =>
      refine ss_cons (s_star (d := .str "effect") (ds := [.str n]) (e_var 1) rfl (pgs_cons (pg_name (i := 2) sc_result.nd rfl (Or.inl rfl)) (pgs_star (pg_name (i := 3) sc_result.nd rfl (Or.inl rfl)) pgs_nil)) (by show 1 ≤ 100; decide))
        (ss_cons (s_ifF (t_is (t_eqS (e_var 2) e_str) (by decide))) (ss_cons (s_ifF (t_is (t_eqS (e_var 2) e_str) (by decide)))
        (ss_cons (s_ifF (t_is (t_tnotin (hu_of hr) (e_ixL (e_var 3) e_int (d := .str n) rfl) (e_getF (cl_Change T) (na_Change_table T) (e_var 0) (hi tab) rfl) (ht tab)) (by rw [tabD_lookup, Option.isSome_map, show (tab.lookup n).isSome = true from hd] <;> rfl)))
        (ss_stop (s_ifT (t_is (t_eqS (e_var 2) e_str) (by decide)) (ss_one (s_ret (c_meth (cl_Change T) (me_Change_effect_of T) (h_effect_of T) (hr.mono (by decide)) (e_var 0) (fun H' b => ch_nolk (hi _ H' b)) (a_one (e_ixL (e_var 3) e_int rfl)) (ch_ok hc ok ⟨n, rfl, hd, rfl, rfl⟩)))))))))
    | fol n =>
      refine ss_cons (s_star (d := .str "follow") (ds := [.str n]) (e_var 1) rfl (pgs_cons (pg_name (i := 2) sc_result.nd rfl (Or.inl rfl)) (pgs_star (pg_name (i := 3) sc_result.nd rfl (Or.inl rfl)) pgs_nil)) (by show 1 ≤ 100; decide))
        (ss_cons (s_ifF (t_is (t_eqS (e_var 2) e_str) (by decide))) (ss_cons (s_ifF (t_is (t_eqS (e_var 2) e_str) (by decide)))
        (ss_cons (s_ifF (t_is (t_tnotin (hu_of hr) (e_ixL (e_var 3) e_int (d := .str n) rfl) (e_getF (cl_Change T) (na_Change_table T) (e_var 0) (hi tab) rfl) (ht tab)) (by rw [tabD_lookup, Option.isSome_map, show (tab.lookup n).isSome = true from hd] <;> rfl)))
        (ss_cons (s_ifF (t_is (t_eqS (e_var 2) e_str) (by decide))) (ss_stop (s_ifT (t_is (t_eqS (e_var 2) e_str) (by decide)) (ss_one (s_ret (c_meth (cl_Change T) (me_Change_follow_up T) (h_follow_up T) (hr.mono (by decide)) (e_var 0) (fun H' b => ch_nolk (hi _ H' b)) (a_one (e_ixL (e_var 3) e_int rfl)) (ch_ok hc ok ⟨n, rfl, rfl, rfl⟩))))))))))
    | tok w n token =>
      obtain ⟨h1, h2, h3⟩ := hd
      have hw : ∀ x : Str, x ∈ [("put" : Str), "take", "effect", "follow", "more"] → decide (w = x) = false := by
        have key : ∀ w ∈ [("finish" : Str), "fail", "give", "lost"], ∀ x ∈ [("put" : Str), "take", "effect", "follow", "more"], decide (w = x) = false := by decide
        exact fun x hx => key w h2 x hx
      have hmore : w ≠ "more" := of_decide_eq_false (hw "more" (by simp))
      refine ss_cons (s_star (d := .str w) (ds := [.str n, .int token]) (e_var 1) rfl (pgs_cons (pg_name (i := 2) sc_result.nd rfl (Or.inl rfl)) (pgs_star (pg_name (i := 3) sc_result.nd rfl (Or.inl rfl)) pgs_nil)) (by show 2 ≤ 100; decide))
        (ss_cons (s_ifF (t_is (t_eqS (e_var 2) e_str) (hw _ (by simp)))) (ss_cons (s_ifF (t_is (t_eqS (e_var 2) e_str) (hw _ (by simp))))
        (ss_cons (s_ifF (t_is (t_tnotin (hu_of hr) (e_ixL (e_var 3) e_int (d := .str n) rfl) (e_getF (cl_Change T) (na_Change_table T) (e_var 0) (hi tab) rfl) (ht tab)) (by rw [tabD_lookup, Option.isSome_map, h1] <;> rfl)))
        (ss_cons (s_ifF (t_is (t_eqS (e_var 2) e_str) (hw _ (by simp)))) (ss_cons (s_ifF (t_is (t_eqS (e_var 2) e_str) (hw _ (by simp))))
        (ss_one (s_ret (c_methSB (cl_Change T) (bm_by_token T) (h_by_token T) hr (e_var 0) (fun H' b => ch_nolk (hi _ H' b)) (fun R => e_var 2) (fun R => e_var 3) (ch_ok hc ok ⟨w, n, token, rfl, h1, hmore, h3, rfl, rfl⟩)))))))))
end
end RQ
set_option Elab.async false
set_option linter.all false
set_option maxRecDepth 100000
set_option maxHeartbeats 4000000
namespace Dx
open PySem PySem.Spec PyProof.Rows L2
/-! ### comprehensions as folds -/
def outs {α β : Type} (f : β → α → α × D) : List β → α → List D
  | [], _ => []
  | b :: bs, s => (f b s).2 :: outs f bs (f b s).1
def fins {α β : Type} (f : β → α → α × D) (bs : List β) (s : α) : α := bs.foldl (fun s b => (f b s).1) s
theorem fins_succ {α β : Type} {f : β → α → α × D} {bs : List β} {s : α} {i : Nat} {b : β} (h : bs[i]? = some b) : fins f (bs.take (i + 1)) s = (f b (fins f (bs.take i) s)).1 := by
  unfold fins
  have e : bs.take (i + 1) = bs.take i ++ [b] := by rw [List.take_succ, h] <;> rfl
  rw [e, List.foldl_append] <;> rfl
theorem outs_len {α β : Type} (f : β → α → α × D) : ∀ (bs : List β) (s : α), (outs f bs s).length = bs.length
  | [], _ => rfl
  | b :: bs, s => congrArg (· + 1) (outs_len f bs _)
theorem outs_get {α β : Type} (f : β → α → α × D) : ∀ (bs : List β) (s : α) (i : Nat) (b : β), bs[i]? = some b → (outs f bs s)[i]? = some (f b (fins f (bs.take i) s)).2
  | [], _, i, b, h => by simp at h
  | b0 :: bs, s, 0, b, h => by
    simp at h
    subst h
    rfl
  | b0 :: bs, s, i + 1, b, h => by
    show (outs f bs (f b0 s).1)[i]? = _
    rw [outs_get f bs (f b0 s).1 i b (by simpa using h)]
    rfl
theorem gather_outs {α β : Type} {f : β → α → α × D} {bs : List β} {s : α} {r : Nat → D} (h : ∀ i b, bs[i]? = some b → r i = (f b (fins f (bs.take i) s)).2) : gather bs.length (fun _ => true) r = outs f bs s := by
  refine List.ext_getElem? fun i => ?_
  unfold gather
  rw [List.filter_eq_self.mpr fun _ _ => rfl, List.getElem?_map]
  by_cases hi : i < bs.length
  · have eb : bs[i]? = some (bs[i]) := List.getElem?_eq_getElem hi
    rw [List.getElem?_range hi, outs_get f bs s i _ eb, ← h i _ eb] <;> rfl
  · rw [List.getElem?_eq_none (by rw [List.length_range]; omega), List.getElem?_eq_none (by rw [outs_len]; omega)] <;> rfl
section
variable {X : Cx} {M : AS} {A B C G : As} {δ δ' : LS} {pos p p2 apos cpos : Pos} {x y z d : D} {a b e o tg iter : Expr} {items : List D}
/-- the state of the turns is At s -/
theorem lc_fold {α β : Type} {elt : Expr} {scope : Scope} {own : List (Str × Nat)} (f : β → α → α × D) (enc : β → D) (At : α → As) (P : Nat → α → Prop) {js : List Nat} {tf : D → LS → Option LS} (bs : List β) (s0 : α) (hP : P 0 s0)
    (turns : ∀ M' : AS, (∀ a, M.x a → M'.x a) → M'.c = M.c → ∀ i b s, bs[i]? = some b → P i s → P (i + 1) (f b s).1 ∧ ∃ δ', tf (enc b) (wipeL δ (own.map (·.2))) = some δ' ∧ ∀ s' H C cl fp, PE (X.blk s' H scope (compEnvC scope cl C X.env) fp) elt (tC X.K M' (At s) δ' (At (f b s).1) (f b s).2)) :
    (∀ i, i ≤ bs.length → P i (fins f (bs.take i) s0)) ∧ ∀ M' : AS, (∀ a, M.x a → M'.x a) → M'.c = M.c → LcTurns X M' scope elt [] tf (bs.map enc) δ own (fun i => At (fins f (bs.take i) s0)) (fun i => At (fins f (bs.take i) s0)) (fun _ => true) (fun i => (outs f bs s0).getD i .non) := by
  have inv : ∀ i, i ≤ bs.length → P i (fins f (bs.take i) s0) := by
    intro i
    induction i with
    | zero => intro _; exact hP
    | succ i ih =>
      intro hi'
      have hb : bs[i]? = some (bs[i]'(by omega)) := List.getElem?_eq_getElem _
      rw [fins_succ hb]
      exact (turns M (fun _ h => h) rfl i _ _ hb (ih (by omega))).1
  refine ⟨inv, fun M' h1 h2 i d hd => ?_⟩
  rw [List.getElem?_map] at hd
  cases eb : bs[i]? with
  | none =>
    rw [eb] at hd
    cases hd
  | some b =>
    rw [eb] at hd
    cases hd
    have hi : i < bs.length := (List.getElem?_eq_some_iff.mp eb).1
    obtain ⟨_, δ', h3, h4⟩ := turns M' h1 h2 i b _ eb (inv i (by omega))
    refine ⟨δ', h3, fun s H C cl fp => ts_nil, fun _ s H C cl fp => ?_, fun h => by cases h⟩
    show PE _ elt (tC X.K M' _ δ' (At (fins f (bs.take (i + 1)) s0)) ((outs f bs s0).getD i .non))
    rw [fins_succ eb, List.getD_eq_getElem?_getD, outs_get f bs s0 i b eb]
    exact h4 s H C cl fp
theorem gather_own {ds : List D} : gather ds.length (fun _ => true) (fun i => ds.getD i .non) = ds := by
  refine List.ext_getElem? fun i => ?_
  unfold gather
  rw [List.filter_eq_self.mpr fun _ _ => rfl, List.getElem?_map]
  by_cases hi : i < ds.length
  · rw [List.getElem?_range hi, List.getElem?_eq_getElem hi, Option.map_some, List.getD_eq_getElem?_getD, List.getElem?_eq_getElem hi] <;> rfl
  · rw [List.getElem?_eq_none (by rw [List.length_range]; omega), List.getElem?_eq_none (by omega)] <;> rfl
theorem e_lcF {α β : Type} {elt : Expr} {scope : Scope} {own : List (Str × Nat)} {g : TG} {js : List Nat} {tf : D → LS → Option LS} (f : β → α → α × D) (enc : β → D) (At : α → As) (P : Nat → α → Prop) (bs : List β) (s0 : α) (hc : X.calm = true) (hN : X.N.Nodup) (ok : BlkOk X.N X.env.scope scope own)
    {W : Hp → Prop} (hi : PIt X M tg iter A δ (At s0) W (bs.map enc)) (hW : ∀ s H, (At s).p H → W H) (hg : ∀ (s : Shared) (H : Hp) (C : Addr) (cl : List (Str × Addr)) (fp : List Addr), PG (X.blk s H scope (compEnvC scope cl C X.env) fp) tg g) (tgk : TgOk X.K g js tf) (hjs : ∀ j ∈ js, j ∈ own.map (·.2)) (hL : ∀ s a, (At s).L a → (At s0).L a) (hz : bs.length < sizeLine) (hP : P 0 s0)
    (turns : ∀ M' : AS, (∀ a, M.x a → M'.x a) → M'.c = M.c → ∀ i b s, bs[i]? = some b → P i s → P (i + 1) (f b s).1 ∧ ∃ δ', tf (enc b) (wipeL δ (own.map (·.2))) = some δ' ∧ ∀ s' H C cl fp, PE (X.blk s' H scope (compEnvC scope cl C X.env) fp) elt (tC X.K M' (At s) δ' (At (f b s).1) (f b s).2))
    (hs : ∀ x, foldedSetIterable iter X.env x = pure x := by intro _; rfl) :
    PE X (.ListComp elt [⟨tg, iter, [], 0⟩] scope pos) (tC X.K M A δ (At (fins f bs s0)) (.lst (outs f bs s0))) := by
  obtain ⟨_, T⟩ := lc_fold (js := js) f enc At P bs s0 hP turns
  have h := e_lcW (pos := pos) (fun i => At (fins f (bs.take i) s0)) (fun i => At (fins f (bs.take i) s0)) (fun _ => true) (fun i => (outs f bs s0).getD i .non) hc hN ok hi (fun i H => hW _ H) hg tgk hjs (fun i a => hL _ a) (by rw [List.length_map]; exact hz) T hs
  rw [List.length_map, List.take_length] at h
  have e : gather bs.length (fun _ => true) (fun i => (outs f bs s0).getD i .non) = outs f bs s0 := by
    have := gather_own (ds := outs f bs s0)
    rw [outs_len] at this
    exact this
  rw [e] at h
  exact h
theorem s_lcF {α β : Type} {i : Nat} {y : Str} {py spos : Pos} {elt : Expr} {scope : Scope} {own : List (Str × Nat)} {g : TG} {js : List Nat} {tf : D → LS → Option LS} (f : β → α → α × D) (enc : β → D) (At : α → As) (P : Nat → α → Prop) (bs : List β) (s0 : α) (hc : X.calm = true) (hN : X.N.Nodup) (hy : X.N[i]? = some y) (hyl : X.env.scope.names.lookup y = some .local)
    (hsw : swapsWith (.ListComp elt [⟨tg, iter, [], 0⟩] scope pos) (some (.Name y py)) spos.line X.env = pure true) (ok : BlkOk X.N X.env.scope scope own)
    {W : Hp → Prop} (hi : PIt X M tg iter A δ (At s0) W (bs.map enc)) (hW : ∀ s H, (At s).p H → W H) (hg : ∀ (s : Shared) (H : Hp) (C : Addr) (cl : List (Str × Addr)) (fp : List Addr), PG (X.blk s H scope (compEnvC scope cl C X.env) fp) tg g) (tgk : TgOk X.K g js tf) (hjs : ∀ j ∈ js, j ∈ own.map (·.2)) (hL : ∀ s a, (At s).L a → (At s0).L a) (hz : bs.length < sizeLine) (hP : P 0 s0)
    (turns : ∀ M' : AS, (∀ a, M.x a → M'.x a) → M'.c = M.c → ∀ i b s, bs[i]? = some b → P i s → P (i + 1) (f b s).1 ∧ ∃ δ', tf (enc b) (wipeL δ (own.map (·.2))) = some δ' ∧ ∀ s' H C cl fp, PE (X.blk s' H scope (compEnvC scope cl C X.env) fp) elt (tC X.K M' (At s) δ' (At (f b s).1) (f b s).2))
    (hs : ∀ x, foldedSetIterable iter X.env x = pure x := by intro _; rfl) :
    PS X (.Assign [.Name y py] (.ListComp elt [⟨tg, iter, [], 0⟩] scope pos) spos) (tO X.K M A δ (.nx (At (fins f bs s0)) (δ.set i (some (.lst (outs f bs s0)))))) := by
  obtain ⟨_, T⟩ := lc_fold (js := js) f enc At P bs s0 hP turns
  have h := s_lcW (pos := pos) (i := i) (y := y) (py := py) (spos := spos) (fun i => At (fins f (bs.take i) s0)) (fun i => At (fins f (bs.take i) s0)) (fun _ => true) (fun i => (outs f bs s0).getD i .non) hc hN hy hyl hsw ok hi (fun i H => hW _ H) hg tgk hjs (fun i a => hL _ a) (by rw [List.length_map]; exact hz) T hs
  rw [List.length_map, List.take_length] at h
  have e : gather bs.length (fun _ => true) (fun i => (outs f bs s0).getD i .non) = outs f bs s0 := by
    have := gather_own (ds := outs f bs s0)
    rw [outs_len] at this
    exact this
  rw [e] at h
  exact h

/-! ### two fields at once; displays with new things -/
def tCAG (K : PySem.W.Frag) (M : AS) (A : As) (δ : LS) (B : Gh → As) (ds : Gh → List D) : TA := fun σ H Q => St0 K M A δ σ H ∧ ∀ (g : Gh) vs H', (∀ i, H (g i) = none) → Kp M H H' → (B g).p H' → RpL K M H' vs (ds g) → Q vs H'
theorem a_consG {es : List Expr} {Bg Cg : Gh → As} {dg : Gh → D} {ds : Gh → List D} (h : PE X e (tCG X.K M A δ Bg dg)) (t : ∀ g, PA X es (tCA X.K M (Bg g) δ (Cg g) (ds g))) (hs : starEach (e :: es) X.env = (false, eval e X.env) :: starEach es X.env := by rfl) : PA X (e :: es) (tCAG X.K M A δ Cg (fun g => dg g :: ds g)) := by
  have hany : PA X es (fun σ H Q => ∃ t, PA X es t ∧ t σ H Q) := ⟨fun pos pins s σ H Q I ⟨t, h, q⟩ => h.run pos pins s σ H Q I q⟩
  exact pa_imp (pa_cons h hany hs) fun σ H Q ⟨s, q⟩ => ⟨s, fun g v H1 n k1 b1 r1 => ⟨_, t g, s.kp k1 b1, fun vs H2 k2 c2 r2 => q g _ H2 n (k1.trans k2) c2 (.cons (r1.kp k2 _ v) r2)⟩⟩
theorem g_tup {es : List Expr} {j} {Bg : Gh → As} {ds : Gh → List D} (h : PA X es (tCAG X.K M A δ Bg ds)) (hz : ∀ g, (ds g).length ≤ 100) : PE X (.Tuple es j pos) (tCG X.K M A δ Bg (fun g => .tup (ds g))) :=
  pe_imp (pe_tup h) fun σ H Q ⟨s, q⟩ => ⟨s, fun g vs H1 n k1 b1 r1 => ⟨by rw [r1.length]; exact Nat.le_trans (hz g) (by decide), fun p hp => q g _ _ n (k1.trans (.new hp)) ((Bg g).mono (Same.new hp) b1) (.tup upd_same (Same.newK hp r1))⟩⟩
/-- ([], []): two lists that will be changed -/
theorem g_twoL {j} {p1 p2 : Pos} : PE X (.Tuple [.List [] p1, .List [] p2] j pos) (tCG X.K M A δ (fun g => (A.and (lstA X.K (g 0) [])).and ((lstA X.K (g 1) []).and (As.pure (g 0 ≠ g 1)))) (fun g => .tup [.ref (g 0), .ref (g 1)])) :=
  pe_imp (pe_tup (pa_cons (pe_lst pa_nil) (pa_cons (pe_lst pa_nil) pa_nil))) fun σ H Q ⟨s, q⟩ => ⟨Nat.zero_le _, fun l1 h1 => ⟨Nat.zero_le _, fun l2 h2 => ⟨by show 2 ≤ sizeLine; decide, fun p hp => by
    have n12 : l1 ≠ l2 := fun z => by
      rw [z] at h1 h2
      rw [upd_same] at h2
      cases h2
    have h2' : H l2 = none := by
      rw [upd_ne n12.symm] at h2
      exact h2
    have e12 : Same H (upd (upd H l1 (.lst [])) l2 (.lst [])) := (Same.new h1).trans (Same.new h2)
    have e3 := e12.trans (Same.new (o := .tup [.ref l1, .ref l2]) hp)
    refine q (fun i => if i = 0 then l1 else l2) _ _ (fun i => ?_) (.of_same e3) ⟨⟨A.mono e3 s.a, rfl, [], ?_, .nil⟩, ⟨rfl, [], ?_, .nil⟩, n12⟩ (.tup upd_same (.cons (.ref l1) (.cons (.ref l2) .nil)))
    · by_cases z : i = 0
      · rw [if_pos z]; exact h1
      · rw [if_neg z]; exact h2'
    · exact Same.new hp _ _ (Same.new h2 _ _ upd_same)
    · exact Same.new hp _ _ upd_same⟩⟩⟩
/-- o.f, o.h = e -/
theorem s_put2G {q Cl : Addr} {n m : Str} {es : List (Str × D)} {p1 p2 tp : Pos} {kt : Nat} {o1 o2 : Expr} {Bg : Gh → As} {d1 d2 : Gh → D} (cl : Cls X.K Cl) (na : NoAttr X.K Cl n) (nb : NoAttr X.K Cl m) (hc : X.calm = true) (he : PE X e (tCG X.K M A δ Bg (fun g => .tup [d1 g, d2 g]))) (ho1 : ∀ A : As, PE X o1 (tC X.K M A δ A (.ref q))) (ho2 : ∀ A : As, PE X o2 (tC X.K M A δ A (.ref q)))
    (hi : ∀ g H, (Bg g).p H → (insA X.K q Cl es).p H) (hf1 : ∀ g, flatD (d1 g) = true) (hf2 : ∀ g, flatD (d2 g) = true) (hl : es.length < 900) {Es : Gh → As}
    (hE : ∀ g H u, (Bg g).p H → (insA X.K q Cl (putFD m (d2 g) (putFD n (d1 g) es))).p (upd H q u) → Fr (fun a => a ≠ q) H (upd H q u) → (Es g).p (upd H q u))
    (hs : swapsWithSole [.Tuple [.Attribute o1 n p1, .Attribute o2 m p2] kt tp] e pos.line X.env = pure false := by rfl) (hw : swappedStores [.Tuple [.Attribute o1 n p1, .Attribute o2 m p2] kt tp] e X.env = pure none := by rfl)
    (h1 : (assignEach [.Tuple [.Attribute o1 n p1, .Attribute o2 m p2] kt tp] X.env).map (·.2) = [assign (.Tuple [.Attribute o1 n p1, .Attribute o2 m p2] kt tp) X.env] := by rfl)
    (hn : (assignEach [.Attribute o1 n p1, .Attribute o2 m p2] X.env).length = 2 := by rfl) (hst : (assignEach [.Attribute o1 n p1, .Attribute o2 m p2] X.env).findIdx? (·.1) = none := by rfl)
    (g1 : (assignEach (.Attribute o1 n p1 :: [.Attribute o2 m p2]) X.env).map (·.2) = assign (.Attribute o1 n p1) X.env :: (assignEach [.Attribute o2 m p2] X.env).map (·.2) := by rfl) (g2 : (assignEach (.Attribute o2 m p2 :: []) X.env).map (·.2) = assign (.Attribute o2 m p2) X.env :: (assignEach [] X.env).map (·.2) := by rfl) :
    PS X (.Assign [.Tuple [.Attribute o1 n p1, .Attribute o2 m p2] kt tp] e pos) (tO X.K M A δ (.all fun g => .nx (Es g) δ)) := by
  have hany : ∀ e, PE X e (fun σ H Q => ∃ t, PE X e t ∧ t σ H Q) := fun e => ⟨fun pins s σ H Q I ⟨t, h, q⟩ => h.run pins s σ H Q I q⟩
  refine ps_imp (ps_asg he (pg_tup hc (pgs_cons (pg_fldX (hany o1)) (pgs_cons (pg_fldX (hany o2)) pgs_nil g2) g1) hn hst) hs hw h1) fun E σ H ⟨s, h⟩ => ⟨s, fun g v H1 nw k1 b1 r1 => ?_⟩
  obtain ⟨a, xs, rfl, ht, l1⟩ := r1.tup_inv
  have hlen := l1.length
  cases l1 with
  | cons r1 l1 => cases l1 with
    | cons r2 l1 =>
      cases l1
      rename_i v1 v2
      refine ⟨a, _, rfl, ht, rfl, v1, _, rfl, _, ho1 (Bg g), s.kp k1 b1, fun w H2 k2 b2 rw => ?_⟩
      cases rw
      obtain ⟨dx, fs, i1, i2⟩ := hi g H2 b2
      have fr : ∀ u, Fr (fun a => a ≠ q) H2 (upd H2 q u) := fun u => .upd i1 (fun _ z => by cases z) fun z => z rfl
      have kp1 : ∀ u, Kp M H2 (upd H2 q u) := fun u => .upd i1 (fun _ z => by cases z) (.inr fun _ z => by cases z)
      have rv1 := (r1.kp k2 _ v1)
      have rv2 := (r2.kp k2 _ v2)
      have f1 : FvR X.K (upd H2 q (.ins Cl dx (putF n v1 fs))) (putF n v1 fs) (putFD n (d1 g) es) := (i2.fr (fr _).tup).put (rv1.flat (fr _).tup _ v1 (hf1 g)) (hf1 g)
      refine ⟨q, Cl, dx, fs, rfl, i1, cl, na, by rw [i2.len]; omega, v2, _, rfl, _, ho2 ((As.mv [q] H2).and (objA q (.ins Cl dx (putF n v1 fs)))), ?_, fun w H3 k3 b3 rw => ?_⟩
      · exact (s.kp (k1.trans k2) b2).kp (kp1 _) ⟨.upd i1 (fun _ z => by cases z) (List.mem_singleton.mpr rfl), upd_same⟩
      · cases rw
        obtain ⟨mv, e3⟩ := b3
        have e3 : H3 q = some (.ins Cl dx (putF n v1 fs)) := e3
        have fr3 : ∀ u, Fr (fun a => a ≠ q) H3 (upd H3 q u) := fun u => .upd e3 (fun _ z => by cases z) fun z => z rfl
        have back : Fr (fun _ => True) H2 (upd H3 q (.ins Cl dx fs)) := ⟨fun b o _ z => by
          by_cases hb : b = q
          · subst hb
            rw [i1] at z
            rw [upd_same]
            exact z
          · rw [upd_ne hb]
            exact mv.keep b o z fun y => hb (List.mem_singleton.mp y), fun b xs z => (fr3 _).tup b xs (mv.tup b xs z), fun b z => (fr3 _).trk b (mv.trk b z)⟩
        have frb : Fr (fun a => a ≠ q) (upd H3 q (.ins Cl dx fs)) (upd (upd H3 q (.ins Cl dx fs)) q (.ins Cl dx (putF m v2 (putF n v1 fs)))) := .upd upd_same (fun _ z => by cases z) fun z => z rfl
        have key := hE g (upd H3 q (.ins Cl dx fs)) (.ins Cl dx (putF m v2 (putF n v1 fs))) ((Bg g).fr (back.less fun _ _ => trivial) b2) (by
          refine ⟨dx, _, upd_same, ?_⟩
          rw [upd_upd]
          have f3 : FvR X.K H3 (putF n v1 fs) (putFD n (d1 g) es) := (i2.fr mv.tup).put (rv1.flat mv.tup _ v1 (hf1 g)) (hf1 g)
          have rv3 : Rp X.K AS.no H3 v2 (d2 g) := rv2.flat mv.tup _ v2 (hf2 g)
          exact (f3.fr (fr3 _).tup).put (rv3.flat (fr3 _).tup _ v2 (hf2 g)) (hf2 g)) frb
        rw [upd_upd] at key
        have kp3 : Kp M H3 (upd H3 q (.ins Cl dx (putF m v2 (putF n v1 fs)))) := .upd e3 (fun _ z => by cases z) (.inr fun _ z => by cases z)
        have kk := ((k1.trans k2).trans (kp1 (.ins Cl dx (putF n v1 fs)))).trans k3
        refine ⟨q, Cl, dx, _, rfl, e3, cl, nb, ?_, rfl, h g nw σ _ (kk.trans kp3) key ((s.s.kp kk).kp kp3)⟩
        have : ∀ (fs : List (Str × V)) (n : Str) (v : V), (putF n v fs).length ≤ fs.length + 1 := by
          intro fs n v
          induction fs with
          | nil => exact Nat.le_refl _
          | cons e fs ih =>
            obtain ⟨g0, x0⟩ := e
            unfold putF
            by_cases z : g0 = n
            · rw [if_pos z]
              exact Nat.le_succ _
            · rw [if_neg z]
              exact Nat.succ_le_succ ih
        have := this fs n v1
        have := i2.len
        omega
end
end Dx
set_option Elab.async false
set_option linter.all false
set_option maxRecDepth 100000
set_option maxHeartbeats 4000000
namespace Dx
open PySem PySem.Spec PyProof.Rows L2
section
variable {X : Cx} {M : AS} {A B C G : As} {δ δ' : LS} {pos p p2 apos cpos : Pos} {x y z d : D} {a b e o tg iter : Expr} {items : List D}
theorem g_tupC {es : List Expr} {j} {ds : List D} (h : PA X es (tCA X.K M A δ B ds)) (hz : ds.length ≤ 100) : PE X (.Tuple es j pos) (tCG X.K M A δ (fun _ => B) (fun _ => .tup ds)) :=
  pe_imp (pe_tup h) fun σ H Q ⟨s, q⟩ => ⟨s, fun vs H1 k1 b1 r1 => ⟨by rw [r1.length]; exact Nat.le_trans hz (by decide), fun p hp => q (fun _ => p) _ _ (fun _ => k1.free hp) (k1.trans (.new hp)) (B.mono (Same.new hp) b1) (.tup upd_same (Same.newK hp r1))⟩⟩
theorem mv_free {S : List Addr} {H0 : Hp} {A : As} (h : ∀ H, A.p H → Mv S H0 H) : ∀ H a, A.p H → H a = none → H0 a = none := fun H a p n => (h H p).free n
theorem Mv.skip {S : List Addr} {H0 H1 H : Hp} {c : Addr} (m : Mv S H0 H1) (m2 : Mv [c] H1 H) (hc : H0 c = none) : Mv S H0 H := ⟨fun a o h n => m2.keep a o (m.keep a o h n) fun z => (by rw [List.mem_singleton.mp z, hc] at h; cases h), fun a xs h => m2.tup a xs (m.tup a xs h), fun a h => m2.trk a (m.trk a h)⟩
theorem mv_put {S : List Addr} {H0 H : Hp} {q : Addr} {u : HO} (m : Mv S H0 H) (hq : q ∈ S) (f : Fr (fun a => a ≠ q) H (upd H q u)) : Mv S H0 (upd H q u) := ⟨fun a o h n => f.keep a o (fun z => n (z ▸ hq)) (m.keep a o h n), fun a xs h => f.tup a xs (m.tup a xs h), fun a h => f.trk a (m.trk a h)⟩
end
end Dx
namespace RQ
open PySem PySem.Spec PyProof.Rows L2 Dx
section
variable {P : Program} {w : World} {K : PySem.W.Frag} {mg : Str → Option Value} {base : Heap}
/-! ### Change.__init__ -/
abbrev chO (K : PySem.W.Frag) (c a t : Addr) (now : Int) : As := insA K c (atG "Change" K) [("by", .ref a), ("when", .int now), ("table", .ref t)]
def preCI (K : PySem.W.Frag) : AS → Hp → List D → List Addr → (Gh → As) → (Gh → D) → Prop := fun M H ds Sx C d => ∃ (c a t : Addr) (now : Int) (es : List (Str × D)), ds = [.ref c, .ref a, .int now, .ref t] ∧ (insA K c (atG "Change" K) []).p H ∧ (tabA K t es).p H ∧ Sx = [c] ∧ C = (fun g => (chO K c a (g 0) now).and (tabA K (g 0) es)) ∧ d = fun _ => .non
theorem sc_CI : FnScope ["self", "setting", "now", "table"] ["self", "setting", "now", "table"] (defScope s_Change_init) := ⟨rfl, rfl, rfl, by decide +kernel, rfl, by decide +kernel, by decide +kernel⟩
theorem h_Change_init (T : Txt K mg) : Has P w K mg base 1 (atM "Change" "__init__" K) ["self", "setting", "now", "table"] (spWG K (preCI K)) := by
  obtain ⟨fd, F⟩ := f_Change_init T
  refine ⟨fd, okWG F sc_CI (fun M H ds Sx C d h => ?_) fun cdv A outer s H E M ds Sx C d hr tr h => ?_, F.bindsN fun _ _ _ _ _ _ us hl => match us, hl with | [_, _, _, _], _ => rfl, F.kp⟩
  · obtain ⟨_, _, _, _, _, rfl, _⟩ := h
    rfl
  · obtain ⟨c, a, t, now, es, rfl, hi, ht, rfl, rfl, rfl⟩ := h
    have hct : t ≠ c := fun z => by
      obtain ⟨dx, fs, h1, _⟩ := hi
      obtain ⟨kvs, h2, _⟩ := ht
      rw [← z, h2] at h1
      cases h1
    have tb : ∀ H', Mv [c] H H' → (tabA K t es).p H' := fun H' m => (tabA K t es).frame m (fun x hx l => absurd ((List.mem_singleton.mp hx).symm.trans l) hct.symm) ht
    refine ⟨(As.mv [c] H).and (insA K c (atG "Change" K) []), .all fun g => .nx ((As.mv [c] H).and ((chO K c a (g 0) now).and (tabA K (g 0) es))) (startD ["self", "setting", "now", "table"] [.ref c, .ref a, .int now, .ref t]), ⟨.refl H, hi⟩, fun g n H' b => ⟨g, n, b.1, b.2, rfl⟩, ?_⟩
    refine ss_consG H (s_put2G (es := []) (Bg := fun _ => (As.mv [c] H).and (insA K c (atG "Change" K) [])) (d1 := fun _ => .ref a) (d2 := fun _ => .int now) (Es := fun _ => (As.mv [c] H).and (insA K c (atG "Change" K) [("by", .ref a), ("when", .int now)])) (cl_Change T) (na_Change_by T) (na_Change_when T) rfl (g_tupC (a_cons (e_var 1) (a_one (e_var 2))) (by show 2 ≤ 100; decide)) (fun A => e_var 0) (fun A => e_var 0) (fun g H' b => b.2) (fun _ => rfl) (fun _ => rfl) (by decide)
      (fun g H' u b i f => ⟨mv_put b.1 (List.mem_singleton.mpr rfl) f, i⟩)) (mv_free fun _ b => b.1) fun g _ =>
      ss_one (s_putFG (es := [("by", .ref a), ("when", .int now)]) (Bg := fun g => ((As.mv [c] H).and (insA K c (atG "Change" K) [("by", .ref a), ("when", .int now)])).and (tabA K (g 0) es)) (dg := fun g => .ref (g 0)) (cl_Change T) (na_Change_table T) (e_dcopy (B := (As.mv [c] H).and (insA K c (atG "Change" K) [("by", .ref a), ("when", .int now)])) (n_dict T) (e_var 3) (fun H' b => tb H' b.1)) (fun g => e_var 0) (fun g H' b => b.1.2) (fun _ => rfl) (by show 2 < 1000; decide)
        (fun g H' u b i f => ⟨mv_put b.1.1 (List.mem_singleton.mpr rfl) f, i, (tabA K (g 0) es).fr (f.less fun x (l : x = g 0) z => ?_) b.2⟩))
    obtain ⟨dx, fs, h1, _⟩ := b.1.2
    obtain ⟨kvs, h2, _⟩ := b.2
    rw [← l, z, h1] at h2
    cases h2
/-! ### Queue.__init__ -/
abbrev quO (K : PySem.W.Frag) (q a t : Addr) (clk : Int) : As := insA K q (atG "Queue" K) [("by", .ref a), ("table", .ref t), ("clock", .int clk)]
def preQI (K : PySem.W.Frag) : AS → Hp → List D → List Addr → (Gh → As) → (Gh → D) → Prop := fun M H ds Sx C d => ∃ (q a : Addr), ds = [.ref q, .ref a] ∧ (insA K q (atG "Queue" K) []).p H ∧ Sx = [q] ∧ C = (fun g => (quO K q a (g 0) 0).and (tabA K (g 0) [])) ∧ d = fun _ => .non
theorem sc_QI : FnScope ["self", "setting"] ["self", "setting"] (defScope s_Queue_init) := ⟨rfl, rfl, rfl, by decide +kernel, rfl, by decide +kernel, by decide +kernel⟩
theorem ins_tab_ne {q t C : Addr} {es : List (Str × D)} {fs : List (Str × D)} {H : Hp} (h1 : (insA K q C fs).p H) (h2 : (tabA K t es).p H) : t ≠ q := fun z => by
  obtain ⟨dx, fs, h1, _⟩ := h1
  obtain ⟨kvs, h2, _⟩ := h2
  rw [z, h1] at h2
  cases h2
theorem h_Queue_init (T : Txt K mg) : Has P w K mg base 1 (atM "Queue" "__init__" K) ["self", "setting"] (spWG K (preQI K)) := by
  obtain ⟨fd, F⟩ := f_Queue_init T
  refine ⟨fd, okWG F sc_QI (fun M H ds Sx C d h => ?_) fun cdv A outer s H E M ds Sx C d hr tr h => ?_, F.bindsN fun _ _ _ _ _ _ us hl => match us, hl with | [_, _], _ => rfl, F.kp⟩
  · obtain ⟨_, _, rfl, _⟩ := h
    rfl
  · obtain ⟨q, a, rfl, hi, rfl, rfl, rfl⟩ := h
    refine ⟨(As.mv [q] H).and (insA K q (atG "Queue" K) []), .all fun g => .nx ((As.mv [q] H).and ((quO K q a (g 0) 0).and (tabA K (g 0) []))) (startD ["self", "setting"] [.ref q, .ref a]), ⟨.refl H, hi⟩, fun g n H' b => ⟨g, n, b.1, b.2, rfl⟩, ?_⟩
    refine ss_cons (s_putF (es := []) (C := (As.mv [q] H).and (insA K q (atG "Queue" K) [])) (Es := (As.mv [q] H).and (insA K q (atG "Queue" K) [("by", .ref a)])) (cl_Queue T) (na_Queue_by T) (e_var 1) (e_var 0) (fun H' b => b.2) rfl (by decide) (fun H' u b i f => ⟨mv_put b.1 (List.mem_singleton.mpr rfl) f, i⟩))
      (ss_consGo id (s_putFG (es := [("by", .ref a)]) (Bg := fun g => ((As.mv [q] H).and (insA K q (atG "Queue" K) [("by", .ref a)])).and (tabA K (g 0) [])) (Es := fun g => ((As.mv [q] H).and (insA K q (atG "Queue" K) [("by", .ref a), ("table", .ref (g 0))])).and (tabA K (g 0) [])) (dg := fun g => .ref (g 0)) (cl_Queue T) (na_Queue_table T) e_new0 (fun g => e_var 0) (fun g H' b => b.1.2) (fun _ => rfl) (by show 1 < 1000; decide)
        (fun g H' u b i f => ⟨⟨mv_put b.1.1 (List.mem_singleton.mpr rfl) f, i⟩, (tabA K (g 0) []).fr (f.less fun x (l : x = g 0) z => ins_tab_ne b.1.2 b.2 (l.symm.trans z)) b.2⟩)) fun g =>
      ss_one (s_putF (es := [("by", .ref a), ("table", .ref (g 0))]) (C := ((As.mv [q] H).and (insA K q (atG "Queue" K) [("by", .ref a), ("table", .ref (g 0))])).and (tabA K (g 0) [])) (cl_Queue T) (na_Queue_clock T) e_int (e_var 0) (fun H' b => b.1.2) rfl (by show 2 < 1000; decide) (fun H' u b i f => ⟨mv_put b.1.1 (List.mem_singleton.mpr rfl) f, i, (tabA K (g 0) []).fr (f.less fun x (l : x = g 0) z => ins_tab_ne b.1.2 b.2 (l.symm.trans z)) b.2⟩)))
/-! ### Queue.do -/
structure QuS (K : PySem.W.Frag) (H : Hp) (q a t : Addr) (S : Cfg) (clk : Int) (tab : Tab) : Prop where
  ins : (quO K q a t clk).p H
  tb : (tabA K t (tabD tab)).p H
  set : ∃ dx t', H a = some (.ins (atG "Setting" K) dx [("texts", .ref t')]) ∧ H t' = some (.dK (kvsS S)) ∧ t' ≠ t
  ok : SOk S
  tok : TabOk tab
def settledT (S : Cfg) (now : Int) (tab : Tab) : Tab := tab.map fun e => (e.1, settledM S now e.2)
noncomputable def doT (S : Cfg) (now : Int) (tab : Tab) (deeds : List Deed) : Tab := fins (fun dd tb => doneM S now tb dd) deeds (settledT S now tab)
noncomputable def doR (S : Cfg) (now : Int) (tab : Tab) (deeds : List Deed) : List D := outs (fun dd tb => doneM S now tb dd) deeds (settledT S now tab)
def DeedsOk (S : Cfg) (now : Int) : Tab → List Deed → Prop
  | _, [] => True
  | tab, dd :: ds => DeedOk S tab dd ∧ DeedsOk S now (doneM S now tab dd).1 ds
theorem settled_ok {S : Cfg} {now : Int} {r : QRow} (h : RowOk r) : RowOk (settledM S now r) := by
  unfold settledM
  cases ht : r.time with
  | none => exact h
  | some t =>
    show RowOk (if _ then _ else _)
    by_cases z : r.place = "held" ∧ t ≤ now
    · rw [if_pos z]; exact fallen_ok S r t
    · rw [if_neg z]; exact h
theorem settledT_ok {S : Cfg} {now : Int} {tab : Tab} (h : TabOk tab) : TabOk (settledT S now tab) where
  nd := by unfold settledT; rw [List.map_map]; exact h.nd
  len := by unfold settledT; rw [List.length_map]; exact h.len
  row := fun e he => by
    unfold settledT at he
    obtain ⟨e0, h0, rfl⟩ := List.mem_map.mp he
    exact settled_ok (h.row e0 h0)
theorem lookup_none_keys {α : Type} {k : Str} : ∀ {l : List (Str × α)}, l.lookup k = none → k ∉ l.map (·.1)
  | [], _ => by simp
  | e :: l, h => by
    rw [List.lookup_cons] at h
    cases hk : k == e.1 with
    | true =>
      rw [hk] at h
      cases h
    | false =>
      rw [hk] at h
      rw [List.map_cons]
      intro z
      rcases List.mem_cons.mp z with y | y
      · exact beq_eq_false_iff_ne.mp hk y
      · exact lookup_none_keys h y
theorem putRow_ok (now : Int) (key : Str) (weight due : Int) (origin : Option Str) : RowOk (putRow now key weight due origin) := by
  cases origin with
  | none => exact fun _ => ⟨_, rfl⟩
  | some o => exact fun z => absurd z (show ¬ ("yet" : Str) = "ready" by decide)
theorem backT_ok {S : Cfg} {now : Int} {tab : Tab} {n : Str} (h : TabOk tab) : TabOk (backT S now tab n) := setT_ok h (fallen_ok S _ _)
theorem done_ok {S : Cfg} {now : Int} {tab : Tab} {dd : Deed} (h : TabOk tab) (hd : DeedOk S tab dd) : TabOk (doneM S now tab dd).1 := by
  cases dd with
  | put n key weight due origin =>
    obtain ⟨h1, h2, h3⟩ := hd
    refine ⟨?_, ?_, fun e he => ?_⟩
    · show ((tab ++ [(n, putRow now key weight due origin)]).map (fun e => e.1)).Nodup
      rw [List.map_append]
      exact List.nodup_append.mpr ⟨h.nd, by simp, fun x hx y hy => by
        have : y = n := by simpa using hy
        subst this
        exact fun z => lookup_none_keys h1 (z ▸ hx)⟩
    · show (tab ++ [_]).length ≤ 1000
      rw [List.length_append, List.length_singleton]
      omega
    · rcases List.mem_append.mp he with z | z
      · exact h.row e z
      · rw [List.mem_singleton.mp z]
        exact putRow_ok now key weight due origin
  | take many =>
    show TabOk (takeM S now tab many).1
    unfold takeM
    have key : ∀ (ns : List Str) (s : Tab × List (Str × Int)), TabOk s.1 → s.1.map (·.1) = tab.map (·.1) → (∀ n ∈ ns, n ∈ tab.map (·.1)) → TabOk (ns.foldl (fun s n => takeStep S now n s) s).1 := by
      intro ns
      induction ns with
      | nil => intro s a _ _; exact a
      | cons n ns ih =>
        intro s a b hn
        have hs : (s.1.lookup n).isSome = true := lookup_of_key (by rw [b]; exact hn n (by simp))
        obtain ⟨k1, k2⟩ := takeStep_ok (S := S) (now := now) a hs
        exact ih _ k1 (k2.trans b) fun m hm => hn m (by simp [hm])
    exact key (takenM S tab now many) (tab, []) h rfl fun n hn => takenM_mem hn
  | eff n =>
    show TabOk (if _ then _ else _)
    by_cases z : rememberedM S (getR tab n) now = true
    · rw [if_pos z]; exact h
    · rw [if_neg z]
      exact setT_ok h fun z => getR_ok h hd z
  | fol n =>
    show TabOk (followT now tab n)
    unfold followT
    have key : ∀ (ns : List Str) (tb : Tab), TabOk tb → TabOk (ns.foldl (fun tb one => movedT tb one "ready" (some now)) tb) := by
      intro ns
      induction ns with
      | nil => intro s a; exact a
      | cons n ns ih => intro s a; exact ih _ (movedT_ok a fun _ => ⟨_, rfl⟩)
    exact key _ _ h
  | tok w n token =>
    show TabOk (tokT S now tab w n token)
    obtain ⟨h1, h2, h3⟩ := hd
    unfold tokT
    by_cases z1 : w = "lost"
    · rw [if_pos z1]
      by_cases z2 : (decide (sg S "hold" = "link") && validB tab n token) = true
      · rw [if_pos z2]; exact backT_ok h
      · rw [if_neg z2]; exact h
    · rw [if_neg z1]
      by_cases z2 : w = "finish"
      · rw [if_pos z2]; exact movedT_ok h fun z => absurd z (by decide)
      · rw [if_neg z2]
        unfold letT
        by_cases z3 : w = "give"
        · rw [if_pos z3]
          by_cases z4 : heldB tab n = true
          · rw [if_pos z4]; exact movedT_ok h fun _ => ⟨_, rfl⟩
          · rw [if_neg z4]; exact h
        · rw [if_neg z3]
          by_cases z4 : heldB tab n = true
          · rw [if_pos z4]
            by_cases z5 : sg S "count" = "fail"
            · rw [if_pos z5]; exact backT_ok (triedT_ok h h1)
            · rw [if_neg z5]; exact backT_ok h
          · rw [if_neg z4]; exact h
def unOI : D → Option Int
  | .int i => some i
  | _ => none
def unrow : D → QRow
  | .tup [.tup [.str k, .int w, o], .str p, t, .int a, .int b, .int c, l] => ⟨⟨k, w, match o with
    | .str x => some x
    | _ => none⟩, p, unOI t, a, b, c, unOI l⟩
  | _ => ⟨⟨Str.empty, 0, none⟩, Str.empty, none, 0, 0, 0, none⟩
theorem unrow_row (r : QRow) : unrow (rowD r) = r := by
  obtain ⟨⟨key, weight, origin⟩, place, time, tries, token, effects, last⟩ := r
  cases origin <;> cases time <;> cases last <;> rfl
def kfI : D → Str
  | .tup [.str k, _] => k
  | _ => Str.empty
def vfI (S : Cfg) (now : Int) : D → D
  | .tup [_, r] => rowD (settledM S now (unrow r))
  | _ => .non
theorem putT_fresh {es : List (Str × D)} {k : Str} {d : D} (h : k ∉ es.map (·.1)) : putT es k d = es ++ [(k, d)] := by
  unfold putT
  rw [if_neg]
  intro z
  obtain ⟨v, e⟩ := Option.isSome_iff_exists.mp z
  exact h (List.mem_map.mpr ⟨_, lookup_mem e, rfl⟩)
theorem mkT_nodup {β : Type} (kf : D → Str) (vf : D → D) (enc : β → D) : ∀ (bs : List β) (es : List (Str × D)), (es.map (·.1) ++ bs.map (fun b => kf (enc b))).Nodup → (bs.map enc).foldl (fun es d => putT es (kf d) (vf d)) es = es ++ bs.map fun b => (kf (enc b), vf (enc b))
  | [], es, _ => by simp
  | b :: bs, es, h => by
    have hk : kf (enc b) ∉ es.map (·.1) := fun z => (List.nodup_append.mp h).2.2 _ z _ (by simp) rfl
    show (bs.map enc).foldl _ (putT es (kf (enc b)) (vf (enc b))) = _
    rw [putT_fresh hk, mkT_nodup kf vf enc bs]
    · rw [List.append_assoc] <;> rfl
    · rw [List.map_append, List.append_assoc]
      exact h
theorem mkT_settled {S : Cfg} {now : Int} {tab : Tab} (h : TabOk tab) : mkT kfI (vfI S now) ((tabD tab).map entD) = tabD (settledT S now tab) := by
  unfold mkT
  have e0 : (tabD tab).map entD = tab.map fun e => entD (e.1, rowD e.2) := by unfold tabD; rw [List.map_map]; rfl
  rw [e0, mkT_nodup kfI (vfI S now) (fun e : Str × QRow => entD (e.1, rowD e.2)) tab [] (by simpa [kfI, entD] using h.nd)]
  unfold tabD settledT
  rw [List.nil_append, List.map_map]
  refine List.map_congr_left fun e _ => ?_
  show (e.1, rowD (settledM S now (unrow (rowD e.2)))) = (e.1, rowD (settledM S now e.2))
  rw [unrow_row]
/-- an object beside a locked dict -/
theorem frz_ins {t q C : Addr} {es : List (Str × D)} {H : Hp} {od : Obj} {kvs : List (Key × V)} (ne : q ≠ t) (hf : H t = some (.frz od (.dK kvs))) (h : (insA K q C es).p (upd H t (.dK kvs))) : (insA K q C es).p H := by
  obtain ⟨dx, fs, h1, h2⟩ := h
  rw [upd_ne ne] at h1
  refine ⟨dx, fs, h1, h2.fr fun a xs z => ?_⟩
  by_cases y : a = t
  · subst y
    rw [upd_same] at z
    cases z
  · rw [upd_ne y] at z
    exact z
theorem ins_set_ne {H : Hp} {q a C C' : Addr} {es : List (Str × D)} {dx : Addr} {v : V} (h : (insA K q C es).p H) (hl : es.length ≠ 1) (h1 : H a = some (.ins C' dx [("texts", v)])) : a ≠ q := fun z => by
  obtain ⟨dx', fs, h4, h5⟩ := h
  rw [z, h4] at h1
  have e := (HO.ins.inj (Option.some.inj h1)).2.2
  have := h5.len
  rw [e] at this
  exact hl this.symm
theorem QuS.mv {H0 H : Hp} {q a t : Addr} {S : Cfg} {clk : Int} {tab : Tab} (h : QuS K H0 q a t S clk tab) : ∀ t3, H0 t3 = none → Mv [q] H0 H → ∃ dx t', H a = some (.ins (atG "Setting" K) dx [("texts", .ref t')]) ∧ H t' = some (.dK (kvsS S)) ∧ t' ≠ t3 := fun t3 h3 m => by
  obtain ⟨dx, t', h1, h2, _⟩ := h.set
  have hne := ins_set_ne h.ins (by show (3 : Nat) ≠ 1; decide) h1
  obtain ⟨dx', fs', h4, h5⟩ := h.ins
  refine ⟨dx, t', m.keep _ _ h1 (fun z => hne (List.mem_singleton.mp z)), m.keep _ _ h2 (fun z => ?_), fun z => ?_⟩
  · have e := List.mem_singleton.mp z
    subst e
    rw [h4] at h2
    cases h2
  · subst z
    rw [h3] at h2
    cases h2
theorem QuS.setAt {H0 H : Hp} {q a t : Addr} {S : Cfg} {clk : Int} {tab : Tab} (h : QuS K H0 q a t S clk tab) {od : Obj} {kvs : List (Key × V)} (hf : H t = some (.frz od (.dK kvs))) (m : Mv [q] H0 (upd H t (.dK kvs))) : SetAt K H a S := by
  obtain ⟨dx, t', h1, h2, h3⟩ := h.set
  have hne := ins_set_ne h.ins (by show (3 : Nat) ≠ 1; decide) h1
  obtain ⟨dx', fs', h4, h5⟩ := h.ins
  obtain ⟨kvs0, h6, _⟩ := h.tb
  have n1 : a ∉ [q] := fun z => hne (List.mem_singleton.mp z)
  have n2 : t' ∉ [q] := fun z => by
    have e := List.mem_singleton.mp z
    subst e
    rw [h4] at h2
    cases h2
  have k1 := m.keep _ _ h1 n1
  have k2 := m.keep _ _ h2 n2
  rw [upd_ne (fun z => by rw [z, h6] at h1; cases h1)] at k1
  rw [upd_ne h3] at k2
  exact ⟨dx, t', k1, k2⟩
def preDo (K : PySem.W.Frag) : AS → Hp → List D → List Addr → (Gh → As) → (Gh → D) → Prop := fun M H ds Sx C d => ∃ (q a t : Addr) (S : Cfg) (clk now : Int) (tab : Tab) (deeds : List Deed), ds = [.ref q, .int now, .lst (deeds.map deedD)] ∧ QuS K H q a t S clk tab ∧ clk ≤ now ∧ DeedsOk S now (settledT S now tab) deeds ∧ deeds.length ≤ 1000 ∧
  Sx = [q] ∧ C = (fun g => (quO K q a (g 0) now).and (tabA K (g 0) (tabD (doT S now tab deeds)))) ∧ d = fun _ => .lst (doR S now tab deeds)
theorem sc_Queue_do : FnScope ["self", "now", "deeds", "change", "results", "name", "row", "deed"] ["self", "now", "deeds"] (defScope s_Queue_do) := ⟨rfl, rfl, rfl, by decide +kernel, rfl, by decide +kernel, by decide +kernel⟩
theorem h_Queue_do (T : Txt K mg) : Has P w K mg base 9 (atM "Queue" "do" K) ["self", "now", "deeds"] (spWG K (preDo K)) := by
  obtain ⟨fd, F⟩ := f_Queue_do T
  refine ⟨fd, okWG F sc_Queue_do (fun M H ds Sx C d h => ?_) fun cdv A outer s H E M ds Sx C d hr tr h => ?_, F.bindsN fun _ _ _ _ _ _ us hl => match us, hl with | [_, _, _], _ => rfl, F.kp⟩
  · obtain ⟨_, _, _, _, _, _, _, _, rfl, _⟩ := h
    rfl
  · obtain ⟨q, a, t, S, clk, now, tab, deeds, rfl, hq, hclk, hdeeds, hlen, rfl, rfl, rfl⟩ := h
    have hqt : t ≠ q := ins_tab_ne hq.ins hq.tb
    have tok1 : TabOk (settledT S now tab) := settledT_ok hq.tok
    have hz : tab.length < sizeLine := Nat.lt_of_le_of_lt hq.tok.len (by decide)
    refine ⟨(As.mv [q] H).and (quO K q a t clk), .all fun g => .rt ((As.mv [q] H).and ((quO K q a (g 0) now).and (tabA K (g 0) (tabD (doT S now tab deeds))))) (.lst (doR S now tab deeds)), ⟨.refl H, hq.ins⟩, fun g n H' b => ⟨g, n, b.1, b.2, rfl⟩, ?_⟩
    have tb : ∀ H', ((As.mv [q] H).and (quO K q a t now)).p H' → (tabA K t (tabD tab)).p H' := fun H' b => (tabA K t (tabD tab)).frame b.1 (fun x hx l => absurd ((List.mem_singleton.mp hx).symm.trans l) hqt.symm) hq.tb
    refine ss_cons (s_ifF (t_is (t_lt (e_var 1) (e_getF (cl_Queue T) (na_Queue_clock T) (e_var 0) (fun H' b => b.2) rfl)) (decide_eq_false (by omega))))
      (ss_cons (s_putF (es := [("by", .ref a), ("table", .ref t), ("clock", .int clk)]) (C := (As.mv [q] H).and (quO K q a t clk)) (Es := (As.mv [q] H).and (quO K q a t now)) (cl_Queue T) (na_Queue_clock T) (e_var 1) (e_var 0) (fun H' b => b.2) rfl (by show 3 < 1000; decide) (fun H' u b i f => ⟨mv_put b.1 (List.mem_singleton.mpr rfl) f, i⟩))
      (ss_consG H (s_putFG (es := [("by", .ref a), ("table", .ref t), ("clock", .int now)]) (Bg := fun g => ((As.mv [q] H).and (quO K q a t now)).and (tabA K (g 0) (tabD (settledT S now tab)))) (Es := fun g => ((As.mv [q] H).and (quO K q a (g 0) now)).and (tabA K (g 0) (tabD (settledT S now tab)))) (dg := fun g => .ref (g 0)) (cl_Queue T) (na_Queue_table T) ?dcomp (fun g => e_var 0) (fun g H' b => b.1.2) (fun _ => rfl) (by show 3 < 1000; decide)
        (fun g H' u b i f => ⟨⟨mv_put b.1.1 (List.mem_singleton.mpr rfl) f, i⟩, (tabA K (g 0) _).fr (f.less fun x (l : x = g 0) z => ins_tab_ne b.1.2 b.2 (l.symm.trans z)) b.2⟩)) (mv_free fun _ b => b.1) fun g ng => ?rest))
    case dcomp =>
      refine g_lock tb fun od kvs => ?_
      have e0 := mkT_settled (S := S) (now := now) hq.tok
      rw [← e0]
      refine g_to (g_dc (B := ((As.mv [q] H).and (quO K q a t now)).frz t od (.dK kvs)) (own := [("name", 5), ("row", 6)]) kfI (vfI S now) rfl sc_Queue_do.nd (blkOk_by (N := ["self", "now", "deeds", "change", "results", "name", "row", "deed"]) (sc := defScope s_Queue_do) (by decide +kernel)) (i_items (B := (As.mv [q] H).and (quO K q a t now)) (e_fld (e_var 0) fun H' b => ?fld) tb) (fun H' b => b.1) (fun _ _ _ _ _ => pg_tup rfl (pgs_cons (pg_name (i := 5) sc_Queue_do.nd rfl (Or.inl rfl)) (pgs_cons (pg_name (i := 6) sc_Queue_do.nd rfl (Or.inl rfl)) pgs_nil))) (tg_pair 5 6) (by simp) (by rw [List.length_map, tabD_len]; exact hz) fun R d hd => ?tt) fun g H' b => ?fin
      case fld =>
        obtain ⟨dx, fs, h1, h2⟩ := frz_ins hqt.symm b.1 b.2.2.2
        obtain ⟨v, h3, h4, _⟩ := h2.get (M := M) (k := "table") (d := .ref t) rfl
        have h4 := h4.ref_inv
        subst h4
        exact ⟨_, dx, fs, _, h1, cl_Queue T, na_Queue_table T, h3, .ref t⟩
      case tt =>
        obtain ⟨e, he, rfl⟩ := List.mem_map.mp hd
        unfold tabD at he
        obtain ⟨e, he, rfl⟩ := List.mem_map.mp he
        refine ⟨_, rfl, by show flatD (rowD (settledM S now (unrow (rowD e.2)))) = true; exact rowD_flat _, fun _ _ _ _ _ => e_var 5, fun _ _ _ _ _ => ?_⟩
        refine e_is (c_call (h_settled T) (hr.mono (by decide)) (g_settled T) (a_cons (e_fld (e_var 0) (d := .ref a) fun H' b => ?f2) (a_cons (e_var 6) (a_one (e_var 1)))) (spF_ok fun H' b => ⟨a, S, e.2, now, rfl, hq.setAt b.1.1 b.1.2.2.1, hq.ok, rfl⟩)) ?ee
        case f2 =>
          obtain ⟨dx, fs, h1, h2⟩ := frz_ins hqt.symm b.1.1 b.1.2.2.2
          obtain ⟨v, h3, h4, _⟩ := h2.get (M := M) (k := "by") (d := .ref a) rfl
          have h4 := h4.ref_inv
          subst h4
          exact ⟨_, dx, fs, _, h1, cl_Queue T, na_Queue_by T, h3, .ref a⟩
        case ee =>
          show rowD (settledM S now e.2) = rowD (settledM S now (unrow (rowD e.2)))
          rw [unrow_row]
      case fin =>
        refine ⟨b.1.1, b.1.2.1, b.1.2.2, ?_⟩
        refine (tabA K (g 0) _).fr (.upd b.1.1 (fun _ z => by cases z) fun z => ?_) b.2
        obtain ⟨kvs', h2, _⟩ := b.2
        rw [← show t = g 0 from z, b.1.1] at h2
        cases h2
    case rest =>
      have hqn : ∀ x, H x = none → x ≠ q := fun x hx z => by
        obtain ⟨dx, fs, h1, _⟩ := hq.ins
        rw [← z, hx] at h1
        cases h1
      have fq : ∀ {t1 x : Addr} {H1 H2 : Hp}, H x = none → Mv [x] H1 H2 → (quO K q a t1 now).p H1 → (quO K q a t1 now).p H2 := fun {t1 x H1 H2} hx m b => (quO K q a t1 now).frame m (fun y hy l => absurd ((List.mem_singleton.mp hy).symm.trans l) (hqn x hx)) b
      refine ss_consGo (fun i => i + 1) (s_setG 3 sc_Queue_do.nd (g_make H (B := ((As.mv [q] H).and (quO K q a (g 0) now)).and (tabA K (g 0) (tabD (settledT S now tab)))) (Gi := fun c g' => (((As.mv [q] H).and (quO K q a (g 0) now)).and (chO K c a (g' 0) now)).and ((tabA K (g' 0) (tabD (settledT S now tab))).and (As.pure (H (g' 0) = none)))) (mk_Change T) (h_Change_init T) (hr.mono (by decide)) (g_Change T)
        (a_cons (e_getF (cl_Queue T) (na_Queue_by T) (e_var 0) (fun H' b => b.1.2) rfl) (a_cons (e_var 1) (a_one (e_getF (cl_Queue T) (na_Queue_table T) (e_var 0) (fun H' b => b.1.2) rfl)))) (mv_free fun _ b => b.1.1) fun c hc => spWG_ok (fun H1 b => ⟨c, a, g 0, now, _, rfl, b.2, b.1.2, rfl, rfl, rfl⟩) fun g' H1 H' n b m k =>
          ⟨⟨⟨b.1.1.1.skip m hc, fq hc m b.1.1.2⟩, k.1⟩, k.2, b.1.1.1.free (n 0)⟩)) fun g2 => ?_
      have chs : ∀ tb, TabOk tb → ∀ H1, ((((As.mv [q] H).and (quO K q a (g 0) now)).and (chO K (g2 0) a (g2 1) now)).and ((tabA K (g2 1) (tabD tb)).and (As.pure (H (g2 1) = none)))).p H1 → ChS K H1 (g2 0) a (g2 1) S now := fun tb ok H1 b => ⟨b.1.2, hq.mv _ b.2.2 b.1.1.1, let ⟨kvs, h1, _⟩ := b.2.1; ⟨kvs, h1⟩, hq.ok⟩
      refine ss_cons (s_lcF (i := 4) (own := [("deed", 7)]) (g := gName 7) (js := [7]) (tf := fOne 7) (fun dd tb => doneM S now tb dd) deedD (fun tb => (((As.mv [q] H).and (quO K q a (g 0) now)).and (chO K (g2 0) a (g2 1) now)).and ((tabA K (g2 1) (tabD tb)).and (As.pure (H (g2 1) = none)))) (fun i tb => TabOk tb ∧ DeedsOk S now tb (deeds.drop i)) deeds (settledT S now tab) rfl sc_Queue_do.nd rfl rfl (sw_true rfl rfl rfl (by decide +kernel)) (blkOk_by (N := ["self", "now", "deeds", "change", "results", "name", "row", "deed"]) (sc := defScope s_Queue_do) (by decide +kernel)) (i_list (e_var 2)) (fun _ _ _ => trivial) (fun _ _ _ _ _ => pg_name (i := 7) sc_Queue_do.nd rfl (Or.inl rfl)) (tg_name 7) (fun _ h => h) (fun _ _ h => h) (Nat.lt_of_le_of_lt hlen (by decide)) ⟨tok1, hdeeds⟩ fun M' _ _ i dd tb hb hP => ?turn)
        (ss_cons (s_putF (es := [("by", .ref a), ("table", .ref (g 0)), ("clock", .int now)]) (B := (((As.mv [q] H).and (quO K q a (g 0) now)).and (chO K (g2 0) a (g2 1) now)).and ((tabA K (g2 1) (tabD (doT S now tab deeds))).and (As.pure (H (g2 1) = none)))) (C := (((As.mv [q] H).and (quO K q a (g 0) now)).and (chO K (g2 0) a (g2 1) now)).and ((tabA K (g2 1) (tabD (doT S now tab deeds))).and (As.pure (H (g2 1) = none)))) (Es := (As.mv [q] H).and ((quO K q a (g2 1) now).and (tabA K (g2 1) (tabD (doT S now tab deeds))))) (cl_Queue T) (na_Queue_table T) (e_getF (cl_Change T) (na_Change_table T) (e_var 3) (fun H' b => b.1.2) rfl) (e_var 0) (fun H' b => b.1.1.2) rfl (by show 3 < 1000; decide)
            (fun H' u b i f => ⟨mv_put b.1.1.1 (List.mem_singleton.mpr rfl) f, i, (tabA K (g2 1) _).fr (f.less fun x (l : x = g2 1) z => ins_tab_ne b.1.1.2 b.2.1 (l.symm.trans z)) b.2.1⟩))
        (ss_one (s_ret (e_var 4))))
      case turn =>
        have hd : deeds.drop i = dd :: deeds.drop (i + 1) := by
          have hi := (List.getElem?_eq_some_iff.mp hb)
          obtain ⟨h1, h2⟩ := hi
          rw [← h2]
          exact (List.drop_eq_getElem_cons h1)
        obtain ⟨ok, hok⟩ := hP
        rw [hd] at hok
        refine ⟨⟨done_ok ok hok.1, hok.2⟩, _, rfl, fun _ _ _ _ _ => c_meth (cl_Change T) (me_Change_result T) (h_result T) hr (e_var 3) (fun H' b => ch_nolk (chs tb ok H' b).ins) (a_one (e_var 7)) (spW_ok (fun H1 b => ⟨g2 0, a, g2 1, S, now, tb, _, _, _, rfl, chs tb ok H1 b, b.2.1, ok, ⟨dd, rfl, hok.1, rfl, rfl⟩, rfl, rfl, rfl⟩) fun H1 H' b m k =>
          ⟨⟨⟨b.1.1.1.skip m b.2.2, fq b.2.2 m b.1.1.2⟩, (chO K (g2 0) a (g2 1) now).frame m (fun y hy l => absurd ((List.mem_singleton.mp hy).symm.trans l) (ins_tab_ne b.1.2 b.2.1)) b.1.2⟩, k, b.2.2⟩)⟩
end
end RQ
set_option Elab.async false
set_option linter.all false
set_option maxRecDepth 100000
set_option maxHeartbeats 4000000
namespace Dx
open PySem PySem.Spec PyProof.Rows L2
section
variable {X : Cx} {M : AS} {A B C G : As} {δ δ' : LS} {pos p p2 apos cpos : Pos} {x y z d : D} {a b e o tg iter : Expr} {items : List D}
theorem i_values {q : Addr} {es : List (Str × D)} {od : Obj} {kvs : List (Key × V)} (he : PE X e (tC X.K M A δ (B.frz q od (.dK kvs)) (.ref q))) (hl : ∀ H, B.p H → (tabA X.K q es).p H) (hbase : attributeBase e "values" X.env (eval e X.env) = eval e X.env := by rfl) (hline : (apos.endLine == cpos.line) = true := by rfl) :
    PIt X M tg (.Call (.Attribute e "values" apos) [] [] cpos) A δ (B.frz q od (.dK kvs)) (fun H => H q = some (.frz od (.dK kvs))) (es.map (·.2)) := ⟨_, pi_values he hbase hline, fun σ H R s h => ⟨s, fun v H1 k1 b1 r1 => by
  cases r1
  obtain ⟨h1, _, b2⟩ := b1
  obtain ⟨kvs', h3, h4⟩ := hl _ b2
  rw [upd_same] at h3
  cases h3
  refine ⟨q, od, kvs, rfl, h1, h (Itd q od kvs) kvs.length _ _ H1 k1 ⟨h1, fun _ z => (by cases z), b2⟩ walk_values (by rw [List.length_map, h4.len]) fun M' hm => ⟨fun H2 k2 w => w, fun i H2 x H3 k2 y hi => ?_⟩⟩
  obtain ⟨rfl, k, ek⟩ := y
  have h5 : KvR X.K H3 kvs es := h4.fr fun a xs z => k2.tup a xs (by
    rw [upd_ne (fun z' => by rw [z', upd_same] at z; cases z)] at z
    exact z)
  obtain ⟨n, d', e3, e4, r4⟩ := h5.pairs (M := M') (i := i) ek
  exact ⟨Same.refl _, d', by rw [List.getElem?_map, e4] <;> rfl, r4⟩⟩⟩
open Classical in
noncomputable def minL (ns : List Int) : Int := if h : ∃ m ∈ ns, ∀ y ∈ ns, m ≤ y then h.choose else 0
theorem minL_is {ns : List Int} {m : Int} (h1 : m ∈ ns) (h2 : ∀ y ∈ ns, m ≤ y) : minL ns = m := by
  have h : ∃ m ∈ ns, ∀ y ∈ ns, m ≤ y := ⟨m, h1, h2⟩
  unfold minL
  rw [dif_pos h]
  have := h.choose_spec
  have a := this.2 m h1
  have b := h2 _ this.1
  omega
theorem e_minL {ns : List Int} (hc : X.calm = true) (hm : X.mg "min" = none) (h : PE X e (tC X.K M A δ B (.lst (ns.map D.int)))) (hne : 0 < ns.length) (hg : Gl X "min" := by rfl) (hs : starEach (e :: []) X.env = (false, eval e X.env) :: starEach [] X.env := by rfl) (hpl : (backTo pos (starEach [] X.env)).any (·.1) = false := by rfl) :
    PE X (.Call (.Name "min" p) [e] [] pos) (tC X.K M A δ B (.int (minL ns))) :=
  e_callB (cr_min hc) (a_one h hs) (fun H vs c t r Q q => by
    cases r with
    | cons r1 r2 =>
      cases r2
      obtain ⟨a, xs, rfl, h1, m1, l1⟩ := r1.lst_inv
      rw [l1.ints_inv] at h1
      refine ⟨a, ns, rfl, SqL.of h1, hne, fun m hm1 hm2 => q _ H (Same.refl H) ?_⟩
      rw [minL_is hm1 hm2]
      exact .int m) hm (by decide +kernel) hg (by decide) (by decide) hs hpl
theorem can_ints : ∀ ns : List Int, PyData.canLayAll0 (toPyL (ns.map D.int)) = true
  | [] => rfl
  | n :: ns => by
    show (PyData.canLay0 (.int n) && PyData.canLayAll0 (toPyL (ns.map D.int))) = true
    rw [can_ints ns] <;> rfl
theorem dep_ints : ∀ ns : List Int, PyData.depthAll (toPyL (ns.map D.int)) ≤ 1
  | [] => by
    show PyData.depthAll [] ≤ 1
    unfold PyData.depthAll
    omega
  | n :: ns => by
    have := dep_ints ns
    show PyData.depthAll (.int n :: toPyL (ns.map D.int)) ≤ 1
    unfold PyData.depthAll
    have e : PyData.depth (.int n) ≤ 1 := by
      unfold PyData.depth
      omega
    exact Nat.max_le.mpr ⟨e, this⟩
theorem shaped_ints (ns : List Int) : SeqAt.shaped (toPy (.lst (ns.map D.int))) = true := by
  unfold SeqAt.shaped
  refine Bool.and_eq_true_iff.mpr ⟨can_ints ns, decide_eq_true ?_⟩
  have := dep_ints ns
  show PyData.depth (.list (toPyL (ns.map D.int))) ≤ 64
  unfold PyData.depth
  omega
theorem plain_ints : ∀ ns : List Int, plainL (ns.map D.int) = true
  | [] => rfl
  | n :: ns => plain_ints ns
theorem eqv_ints (ns : List Int) : PyData.eqv (toPy (.lst (ns.map D.int))) (toPy (.lst [])) = decide (ns = []) := by
  cases ns <;> rfl
end
end Dx
namespace RQ
open PySem PySem.Spec PyProof.Rows L2 Dx
section
variable {P : Program} {w : World} {K : PySem.W.Frag} {mg : Str → Option Value} {base : Heap}
def QuR (K : PySem.W.Frag) (H : Hp) (q a t : Addr) (clk : Int) (tab : Tab) : Prop := (quO K q a t clk).p H ∧ (tabA K t (tabD tab)).p H
theorem QuR.same {H H' : Hp} {q a t : Addr} {clk : Int} {tab : Tab} (h : QuR K H q a t clk tab) (e : Same H H') : QuR K H' q a t clk tab := ⟨(quO K q a t clk).mono e h.1, (tabA K t (tabD tab)).mono e h.2⟩
/-! ### time, names, row, free -/
def preTime (K : PySem.W.Frag) : Hp → List D → D → Prop := fun H ds d => ∃ (q a t : Addr) (clk : Int) (tab : Tab), ds = [.ref q] ∧ QuR K H q a t clk tab ∧ d = .int clk
theorem sc_Queue_time : FnScope ["self"] ["self"] (defScope s_Queue_time) := ⟨rfl, rfl, rfl, by decide +kernel, rfl, by decide +kernel, by decide +kernel⟩
theorem h_Queue_time (T : Txt K mg) : Has P w K mg base 1 (atM "Queue" "time" K) ["self"] (spF K (preTime K)) := by
  obtain ⟨fd, F⟩ := f_Queue_time T
  refine ⟨fd, okF F sc_Queue_time (fun H ds d h => ?_) (fun H H' ds d e ⟨q, a, t, c, tb, h1, h2, h3⟩ => ⟨q, a, t, c, tb, h1, h2.same e, h3⟩) fun cdv A outer s H E M ds d hr h => ?_, F.bindsN fun _ _ _ _ _ _ us hl => match us, hl with | [_], _ => rfl, F.kp⟩
  · obtain ⟨_, _, _, _, _, rfl, _⟩ := h
    rfl
  · obtain ⟨q, a, t, clk, tab, rfl, hq, rfl⟩ := h
    exact ⟨.rt (As.same H) _, ⟨fun _ h => h, rfl⟩, ss_one (s_ret (e_getF (cl_Queue T) (na_Queue_clock T) (e_var 0) (fun H' e => (hq.same e).1) rfl))⟩
def preNames (K : PySem.W.Frag) : Hp → List D → D → Prop := fun H ds d => ∃ (q a t : Addr) (clk : Int) (tab : Tab), ds = [.ref q] ∧ QuR K H q a t clk tab ∧ d = .lst ((tab.map (·.1)).map D.str)
theorem sc_Queue_names : FnScope ["self"] ["self"] (defScope s_Queue_names) := ⟨rfl, rfl, rfl, by decide +kernel, rfl, by decide +kernel, by decide +kernel⟩
theorem h_Queue_names (T : Txt K mg) : Has P w K mg base 1 (atM "Queue" "names" K) ["self"] (spF K (preNames K)) := by
  obtain ⟨fd, F⟩ := f_Queue_names T
  refine ⟨fd, okF F sc_Queue_names (fun H ds d h => ?_) (fun H H' ds d e ⟨q, a, t, c, tb, h1, h2, h3⟩ => ⟨q, a, t, c, tb, h1, h2.same e, h3⟩) fun cdv A outer s H E M ds d hr h => ?_, F.bindsN fun _ _ _ _ _ _ us hl => match us, hl with | [_], _ => rfl, F.kp⟩
  · obtain ⟨_, _, _, _, _, rfl, _⟩ := h
    rfl
  · obtain ⟨q, a, t, clk, tab, rfl, hq, rfl⟩ := h
    exact ⟨.rt (As.same H) _, ⟨fun _ h => h, rfl⟩, ss_one (s_ret (e_is (e_tkeys rfl (n_list T) (e_getF (cl_Queue T) (na_Queue_table T) (e_var 0) (fun H' e => (hq.same e).1) rfl) (fun H' e => (hq.same e).2)) (by rw [tabD_keys])))⟩
def rowS (r : QRow) : D := .tup [.str r.place, oI r.time, .int r.tries, .int r.token, .int r.effects]
def preRow (K : PySem.W.Frag) : Hp → List D → D → Prop := fun H ds d => ∃ (q a t : Addr) (clk : Int) (tab : Tab) (n : Str), ds = [.ref q, .str n] ∧ QuR K H q a t clk tab ∧ (tab.lookup n).isSome = true ∧ d = rowS (getR tab n)
theorem sc_Queue_row : FnScope ["self", "name"] ["self", "name"] (defScope s_Queue_row) := ⟨rfl, rfl, rfl, by decide +kernel, rfl, by decide +kernel, by decide +kernel⟩
theorem h_Queue_row (T : Txt K mg) : Has P w K mg base 1 (atM "Queue" "row" K) ["self", "name"] (spF K (preRow K)) := by
  obtain ⟨fd, F⟩ := f_Queue_row T
  refine ⟨fd, okF F sc_Queue_row (fun H ds d h => ?_) (fun H H' ds d e ⟨q, a, t, c, tb, n, h1, h2, h3⟩ => ⟨q, a, t, c, tb, n, h1, h2.same e, h3⟩) fun cdv A outer s H E M ds d hr h => ?_, F.bindsN fun _ _ _ _ _ _ us hl => match us, hl with | [_, _], _ => rfl, F.kp⟩
  · obtain ⟨_, _, _, _, _, _, rfl, _⟩ := h
    rfl
  · obtain ⟨q, a, t, clk, tab, n, rfl, hq, hn, rfl⟩ := h
    exact ⟨.rt (As.same H) _, ⟨fun _ h => h, rfl⟩, ss_cons (s_ifF (t_is (t_tnotin (hu_of hr) (e_var 1) (e_getF (cl_Queue T) (na_Queue_table T) (e_var 0) (fun H' e => (hq.same e).1) rfl) (fun H' e => (hq.same e).2)) (by rw [tabD_lookup, Option.isSome_map, hn] <;> rfl)))
      (ss_one (s_ret (e_is (e_slT (e_tget (hu_of hr) (e_getF (cl_Queue T) (na_Queue_table T) (e_var 0) (fun H' e => (hq.same e).1) rfl) (e_var 1) (fun H' e => (hq.same e).2) (tabD_getR hn)) (o_some e_int) (o_some e_int)) rfl)))⟩
def preFree (K : PySem.W.Frag) : Hp → List D → D → Prop := fun H ds d => ∃ (q a t : Addr) (S : Cfg) (clk many : Int) (tab : Tab), ds = [.ref q, .int many] ∧ QuR K H q a t clk tab ∧ SetAt K H a S ∧ SOk S ∧ TabOk tab ∧ d = .lst ((takenM S tab clk many).map D.str)
theorem sc_Queue_free : FnScope ["self", "many"] ["self", "many"] (defScope s_Queue_free) := ⟨rfl, rfl, rfl, by decide +kernel, rfl, by decide +kernel, by decide +kernel⟩
theorem h_Queue_free (T : Txt K mg) : Has P w K mg base 6 (atM "Queue" "free" K) ["self", "many"] (spF K (preFree K)) := by
  obtain ⟨fd, F⟩ := f_Queue_free T
  refine ⟨fd, okF F sc_Queue_free (fun H ds d h => ?_) (fun H H' ds d e ⟨q, a, t, S, c, m, tb, h1, h2, h3, h4⟩ => ⟨q, a, t, S, c, m, tb, h1, h2.same e, h3.same e, h4⟩) fun cdv A outer s H E M ds d hr h => ?_, F.bindsN fun _ _ _ _ _ _ us hl => match us, hl with | [_, _], _ => rfl, F.kp⟩
  · obtain ⟨_, _, _, _, _, _, _, rfl, _⟩ := h
    rfl
  · obtain ⟨q, a, t, S, clk, many, tab, rfl, hq, hS, ok, tok, rfl⟩ := h
    exact ⟨.rt (As.same H) _, ⟨fun _ h => h, rfl⟩, ss_one (s_ret (c_call (h_taken_names T) hr (g_taken_names T) (a_cons (e_getF (cl_Queue T) (na_Queue_by T) (e_var 0) (fun H' e => (hq.same e).1) rfl) (a_cons (e_getF (cl_Queue T) (na_Queue_table T) (e_var 0) (fun H' e => (hq.same e).1) rfl) (a_cons (e_getF (cl_Queue T) (na_Queue_clock T) (e_var 0) (fun H' e => (hq.same e).1) rfl) (a_one (e_var 1)))))
      (spF_ok fun H' e => ⟨a, t, S, tab, clk, many, rfl, hS.same e, ok, (hq.same e).2, tok.len, tok.row, rfl⟩)))⟩
/-! ### next_time -/
def timesM (clk : Int) : Tab → List Int
  | [] => []
  | e :: tab => match e.2.time with
    | some t => if clk < t then t :: timesM clk tab else timesM clk tab
    | none => timesM clk tab
noncomputable def nextM (clk : Int) (tab : Tab) : Option Int := if timesM clk tab = [] then none else some (minL (timesM clk tab))
def fLate (clk : Int) : D → Bool
  | .tup [_, _, .int t, _, _, _, _] => decide (clk < t)
  | _ => false
def fThird : D → D
  | .tup (_ :: _ :: t :: _) => t
  | _ => .non
theorem times_map (clk : Int) (tab : Tab) : (((tabD tab).map (·.2)).filter (fLate clk)).map fThird = (timesM clk tab).map D.int := by
  rw [tabD_vals]
  induction tab with
  | nil => rfl
  | cons e tab ih =>
    rw [List.map_cons, List.filter_cons]
    obtain ⟨k, ⟨own, place, time, tries, token, effects, last⟩⟩ := e
    cases time with
    | none => exact ih
    | some t =>
      show List.map fThird (if decide (clk < t) = true then _ else _) = List.map D.int (if clk < t then t :: timesM clk tab else timesM clk tab)
      by_cases h : clk < t
      · rw [if_pos (decide_eq_true h), if_pos h, List.map_cons, ih] <;> rfl
      · rw [if_neg (by rw [decide_eq_false h]; decide), if_neg h, ih]
def preNext (K : PySem.W.Frag) : Hp → List D → D → Prop := fun H ds d => ∃ (q a t : Addr) (clk : Int) (tab : Tab), ds = [.ref q] ∧ QuR K H q a t clk tab ∧ tab.length ≤ 1000 ∧ d = oI (nextM clk tab)
theorem sc_Queue_next : FnScope ["self", "times", "row"] ["self"] (defScope s_Queue_next_time) := ⟨rfl, rfl, rfl, by decide +kernel, rfl, by decide +kernel, by decide +kernel⟩
theorem h_Queue_next (T : Txt K mg) : Has P w K mg base 1 (atM "Queue" "next_time" K) ["self"] (spF K (preNext K)) := by
  obtain ⟨fd, F⟩ := f_Queue_next_time T
  refine ⟨fd, okF F sc_Queue_next (fun H ds d h => ?_) (fun H H' ds d e ⟨q, a, t, c, tb, h1, h2, h3⟩ => ⟨q, a, t, c, tb, h1, h2.same e, h3⟩) fun cdv A outer s H E M ds d hr h => ?_, F.bindsN fun _ _ _ _ _ _ us hl => match us, hl with | [_], _ => rfl, F.kp⟩
  · obtain ⟨_, _, _, _, _, rfl, _⟩ := h
    rfl
  · obtain ⟨q, a, t, clk, tab, rfl, hq, hz, rfl⟩ := h
    have hqt : q ≠ t := (ins_tab_ne hq.1 hq.2).symm
    have ht : ∀ H', (As.same H).p H' → (tabA K t (tabD tab)).p H' := fun H' e => (hq.same e).2
    refine ⟨.rt (As.same H) _, ⟨fun _ h => h, rfl⟩, ?_⟩
    refine ss_cons (B := As.same H) (δ' := [some (.ref q), some (.lst ((timesM clk tab).map D.int)), none]) (s_lock ht fun od kvs => ?comp)
      (ss_one (s_ret (e_ifx (k := !decide (timesM clk tab = [])) (t_is (t_neD (x := .lst ((timesM clk tab).map D.int)) (y := .lst []) hr.units (e_var 1) (e_lst a_nil) (plain_ints _) rfl (shaped_ints _) (shaped_ints []) (eqv_ints _)) rfl) (fun h => ?m) fun h => ?n)))
    case comp =>
      refine s_eq (s_lcP (i := 1) (own := [("row", 2)]) (g := gName 2) (js := [2]) (f := fOne 2) (fLate clk) fThird rfl sc_Queue_next.nd rfl rfl (sw_true rfl rfl rfl (by decide +kernel)) (blkOk_by (N := ["self", "times", "row"]) (sc := defScope s_Queue_next_time) (by decide +kernel)) (i_values (B := As.same H) (e_fld (e_var 0) fun H' b => ?fld) ht) (fun H' b => b.1) (fun _ _ _ _ _ => pg_name (i := 2) sc_Queue_next.nd rfl (Or.inl rfl)) (tg_name 2) (fun _ h => h) (by rw [List.length_map, tabD_len]; exact Nat.lt_of_le_of_lt hz (by decide)) (fun M' _ _ d hd => ?tt)) ?ee
      case fld =>
        obtain ⟨dx, fs, h1, h2⟩ := frz_ins hqt b.1 ((hq.same b.2.2).1)
        obtain ⟨v, h3, h4, _⟩ := h2.get (M := M) (k := "table") (d := .ref t) rfl
        have h4 := h4.ref_inv
        subst h4
        exact ⟨_, dx, fs, _, h1, cl_Queue T, na_Queue_table T, h3, .ref t⟩
      case tt =>
        rw [tabD_vals] at hd
        obtain ⟨e, he, rfl⟩ := List.mem_map.mp hd
        refine ⟨_, rfl, fun _ _ _ _ _ => ts_one ?_, fun _ _ _ _ _ _ => e_ixT (e_var 2 (d := rowD e.2)) e_int (d := oI e.2.time) rfl⟩
        cases ho : e.2.time with
        | none => exact t_is (t_and (k := false) (j := true) (t_is (t_notN (k := true) (e_ixT (e_var 2 (d := rowD e.2)) e_int (d := .non) (by rw [ho] <;> rfl)) (fun K H v r => by cases r; rfl)) rfl) (fun h => by cases h)) (by unfold rowD; rw [ho] <;> rfl)
        | some t0 =>
          refine t_is (t_and (k := true) (t_is (t_notN (k := false) (e_ixT (e_var 2 (d := rowD e.2)) e_int (d := .int t0) (by rw [ho] <;> rfl)) (fun K H v r => by cases r; rfl)) rfl) (fun _ => t_gt (e_ixT (e_var 2 (d := rowD e.2)) e_int (d := .int t0) (by rw [ho] <;> rfl)) (e_fld (e_var 0) (d := .int clk) fun H' b => ?f2))) (by unfold rowD; rw [ho] <;> rfl)
          obtain ⟨dx, fs, h1, h2⟩ := frz_ins hqt b.1 ((hq.same b.2.2).1)
          obtain ⟨v, h3, h4, _⟩ := h2.get (M := M') (k := "clock") (d := .int clk) rfl
          have h4 := h4.int_inv
          subst h4
          exact ⟨_, dx, fs, _, h1, cl_Queue T, na_Queue_clock T, h3, .int clk⟩
      case ee => rw [times_map] <;> rfl
    case m =>
      have hne : timesM clk tab ≠ [] := by simpa using h
      refine e_is (e_minL rfl (n_min T) (e_var 1) (List.length_pos_iff.mpr hne)) ?_
      unfold nextM
      rw [if_neg hne] <;> rfl
    case n =>
      have hne : timesM clk tab = [] := by simpa using h
      refine e_is e_non ?_
      unfold nextM
      rw [if_pos hne] <;> rfl
/-! ### copied -/
def preCopied (K : PySem.W.Frag) : AS → Hp → List D → List Addr → (Gh → As) → (Gh → D) → Prop := fun M H ds Sx C d => ∃ (q a t : Addr) (clk : Int) (tab : Tab), ds = [.ref q] ∧ QuR K H q a t clk tab ∧ Sx = [] ∧ C = (fun g => (quO K (g 0) a (g 1) clk).and (tabA K (g 1) (tabD tab))) ∧ d = fun g => .ref (g 0)
theorem sc_Queue_copied : FnScope ["self", "other"] ["self"] (defScope s_Queue_copied) := ⟨rfl, rfl, rfl, by decide +kernel, rfl, by decide +kernel, by decide +kernel⟩
theorem h_Queue_copied (T : Txt K mg) : Has P w K mg base 3 (atM "Queue" "copied" K) ["self"] (spWG K (preCopied K)) := by
  obtain ⟨fd, F⟩ := f_Queue_copied T
  refine ⟨fd, okWG F sc_Queue_copied (fun M H ds Sx C d h => ?_) fun cdv A outer s H E M ds Sx C d hr tr h => ?_, F.bindsN fun _ _ _ _ _ _ us hl => match us, hl with | [_], _ => rfl, F.kp⟩
  · obtain ⟨_, _, _, _, _, rfl, _⟩ := h
    rfl
  · obtain ⟨q, a, t, clk, tab, rfl, hq, rfl, rfl, rfl⟩ := h
    refine ⟨As.same H, .all fun g1 => .all fun g2 => .rt ((As.same H).and ((quO K (g1 0) a (g2 0) clk).and (tabA K (g2 0) (tabD tab)))) (.ref (g1 0)), Same.refl H, fun g1 n1 g2 n2 H' b => ⟨fun i => if i = 0 then g1 0 else g2 0, fun i => by
      by_cases z : i = 0
      · show H (if i = 0 then g1 0 else g2 0) = none
        rw [if_pos z]; exact n1 0
      · show H (if i = 0 then g1 0 else g2 0) = none
        rw [if_neg z]; exact n2 0, .of_same b.1, b.2, rfl⟩, ?_⟩
    refine ss_consGo id (s_setG 1 sc_Queue_copied.nd (g_make H (B := As.same H) (Gi := fun o g' => (As.same H).and (((quO K o a (g' 0) 0).and (tabA K (g' 0) [])).and (As.pure (H o = none)))) (mk_Queue T) (h_Queue_init T) (hr.mono (by decide)) (g_Queue T) (a_one (e_getF (cl_Queue T) (na_Queue_by T) (e_var 0) (fun H' e => (hq.same e).1) rfl)) (fun H' x e hx => by
        cases y : H x with
        | none => rfl
        | some u => rw [e _ _ y] at hx; cases hx) fun o ho => spWG_ok (fun H1 b => ⟨o, a, rfl, b.2, rfl, rfl, rfl⟩) fun g' H1 H' n b m k => ⟨((Mv.of_same b.1 : Mv [] H H1).skip m ho).same, k, ho⟩)) fun g1 => ?_
    refine ss_consGo id (s_put2G (q := g1 0) (es := [("by", .ref a), ("table", .ref (g1 1)), ("clock", .int 0)]) (Bg := fun g => ((As.same H).and (((quO K (g1 0) a (g1 1) 0).and (tabA K (g1 1) [])).and (As.pure (H (g1 0) = none)))).and (tabA K (g 0) (tabD tab))) (d1 := fun g => .ref (g 0)) (d2 := fun _ => .int clk) (Es := fun g2 => (As.same H).and ((quO K (g1 0) a (g2 0) clk).and (tabA K (g2 0) (tabD tab)))) (cl_Queue T) (na_Queue_table T) (na_Queue_clock T) rfl
        (g_tup (a_consG (e_dcopy (B := (As.same H).and (((quO K (g1 0) a (g1 1) 0).and (tabA K (g1 1) [])).and (As.pure (H (g1 0) = none)))) (n_dict T) (e_getF (cl_Queue T) (na_Queue_table T) (e_var 0) (fun H' b => (hq.same b.1).1) rfl) (fun H' b => (hq.same b.1).2)) fun g => a_one (e_getF (cl_Queue T) (na_Queue_clock T) (e_var 0) (fun H' b => (hq.same b.1.1).1) rfl)) (fun g => by show 2 ≤ 100; decide)) (fun A => e_var 1) (fun A => e_var 1) (fun g H' b => b.1.2.1.1) (fun _ => rfl) (fun _ => rfl) (by show 3 < 900; decide)
        (fun g H' u b i f => ⟨(As.same H).fr (f.less fun x l z => l (z ▸ b.1.2.2)) b.1.1, i, (tabA K (g 0) _).fr (f.less fun x (l : x = g 0) z => ins_tab_ne b.1.2.1.1 b.2 (l.symm.trans z)) b.2⟩)) fun g2 => ss_one (s_ret (e_var 1))
end
end RQ
set_option Elab.async false
set_option linter.all false
set_option maxRecDepth 100000
set_option maxHeartbeats 4000000
namespace Dx
open PySem PySem.Spec PyProof.Rows L2
/-- at e a list of n flat data, of which the last is told -/
def earlA (K : PySem.W.Frag) (e : Addr) (n : Nat) (last : Option D) : As where
  p := fun H => ∃ ds, (lstA K e ds).p H ∧ ds.length = n ∧ ∀ d, last = some d → ds.getLast? = some d
  L := fun a => a = e
  fr := fun f ⟨ds, h, r⟩ => ⟨ds, (lstA K e ds).fr f h, r⟩
  trk := fun ⟨ds, h, _⟩ l => (lstA K e ds).trk h l
section
variable {X : Cx} {M : AS} {A B C G : As} {δ δ' : LS} {pos p p2 apos cpos : Pos} {x y z d : D} {a b e o tg iter : Expr} {items : List D}
/-- isinstance(a, C), a an object of C -/
theorem e_isiOwn {q Cl : Addr} {n : Str} (hm : X.mg "isinstance" = none) (hx : PE X a (tC X.K M A δ B (.ref q))) (hn : X.mg n = some (.ref Cl)) (ty : ∀ H, B.p H → TyOf X.K H (.ref q) (.ref Cl)) (hg : Gl X "isinstance" := by rfl) (hgn : Gl X n := by rfl)
    (hdb : (n == ("__debug__" : Str)) = false := by decide) (he : starEach (a :: [.Name n p2]) X.env = (false, eval a X.env) :: starEach [.Name n p2] X.env := by rfl) (he2 : starEach (.Name n p2 :: []) X.env = (false, eval (.Name n p2) X.env) :: starEach [] X.env := by rfl) (hpl : (backTo pos (starEach [.Name n p2] X.env)).any (·.1) = false := by rfl) :
    PE X (.Call (.Name "isinstance" p) [a, .Name n p2] [] pos) (tC X.K M A δ B (.bl true)) :=
  e_callB call_isi (a_cons hx (a_cons (e_glob (v := .ref Cl) hn rfl (fun _ => .ref Cl) hgn hdb) a_nil he2) he) (fun H vs c t r Q q0 => by
    cases r with
    | cons r1 r => cases r with
      | cons r2 r =>
        cases r
        cases r1
        cases r2
        exact ⟨_, _, _, _, true, rfl, .own Cl, .base (ty H c), by unfold PySem.W.kitOne; rw [if_pos (beq_self_eq_true _)], q0 _ H (Same.refl H) (.bl true)⟩) hm (by decide +kernel) hg (by decide) (by decide) he hpl
/-- o.append(e), o such a list -/
theorem s_eapp {qa : Addr} {n : Nat} {last : Option D} (ho : PE X o (tC X.K M A δ B (.ref qa))) (he : PE X e (tC X.K M B δ C d)) (hq : M.c qa) (hb : ∀ H, B.p H → (earlA X.K qa n last).p H) (hl : ∀ H, C.p H → (earlA X.K qa n last).p H) (hd : flatD d = true) (hz : n < sizeLine) (hG : ∀ H u, C.p H → (earlA X.K qa (n + 1) (some d)).p (upd H qa u) → Fr (fun a => a ≠ qa) H (upd H qa u) → G.p (upd H qa u))
    (hbase : attributeBase o "append" X.env (eval o X.env) = eval o X.env := by rfl)
    (hfew : ((backTo cpos (starEach (e :: []) X.env)).all (fun x => !x.1) && (backToKw cpos (keywordEach [] X.env)).all (fun x => x.1.isSome) && decide ((e :: []).length + ([] : List Keyword).length + (if ([] : List Keyword).isEmpty then 0 else 1) < 30)) = true := by rfl)
    (hline : (apos.endLine == cpos.line) = true := by rfl) (hs : starEach (e :: []) X.env = (false, eval e X.env) :: starEach [] X.env := by rfl) (hplain : (backTo cpos (starEach [] X.env)).any (·.1) = false := by rfl)
    (hsw : swapsWith (.Call (.Attribute o "append" apos) [e] [] cpos) none pos.line X.env = pure false := by rfl) : PS X (.Expr (.Call (.Attribute o "append" apos) [e] [] cpos) pos) (tO X.K M A δ (.nx G δ)) :=
  s_expr (d := .non) (e_bm PySem.F.plainAttrs_list PySem.F.slot_list_append PySem.F.type_list_append mt_append ho (a_one he hs) (fun H v b r => by
    cases r
    obtain ⟨ds, ⟨f, xs, e1, l1⟩, _⟩ := hb H b
    exact .inl ⟨rfl, xs, SqL.of e1⟩) (fun H v vs c t r1 r2 Q q => by
    have r1 := r1.ref_inv
    subst r1
    cases r2 with
    | cons r2 r3 =>
      rename_i y ys
      cases r3
      obtain ⟨ds, ⟨f, xs, e1, l1⟩, hn, _⟩ := hl H c
      have fr : ∀ u, Fr (fun a => a ≠ qa) H (upd H qa u) := fun u => .upd e1 (fun _ z => by cases z) fun z => z rfl
      refine ⟨_, xs, y, rfl, rfl, e1, by rw [l1.length, hn]; exact hz, q _ _ (.upd e1 (fun _ z => by cases z) (.inl hq)) (hG H _ c ⟨ds ++ [d], ⟨flatL_append f (by show (flatD d && true) = true; rw [hd] <;> rfl), _, upd_same, ?_⟩, by rw [List.length_append, hn] <;> rfl, fun d' hd' => by cases hd'; simp⟩ (fr _)) .non⟩
      exact (l1.flat (fr _).tup ds xs f).append (RpL.one (r2.flat (fr _).tup d _ hd))) hbase hfew hline hs hplain) hsw
/-- o.clear() -/
theorem s_oclear {qa : Addr} (ho : PE X o (tC X.K M A δ B (.ref qa))) (hq : M.c qa) (hb : ∀ H, B.p H → ∃ xs, H qa = some (.lst xs)) (hG : ∀ H u, B.p H → (lstA X.K qa []).p (upd H qa u) → Fr (fun a => a ≠ qa) H (upd H qa u) → G.p (upd H qa u))
    (hbase : attributeBase o "clear" X.env (eval o X.env) = eval o X.env := by rfl) (hline : (apos.endLine == cpos.line) = true := by rfl) (hsw : swapsWith (.Call (.Attribute o "clear" apos) [] [] cpos) none pos.line X.env = pure false := by rfl) : PS X (.Expr (.Call (.Attribute o "clear" apos) [] [] cpos) pos) (tO X.K M A δ (.nx G δ)) :=
  s_expr (d := .non) (e_bm0 PySem.F.plainAttrs_list PySem.F.slot_list_clear PySem.F.type_list_clear mt_clear ho (fun H v b r => by
    cases r
    obtain ⟨xs, e1⟩ := hb H b
    exact .inl ⟨rfl, xs, SqL.of e1⟩) (fun H v b t r Q q => by
    cases r
    obtain ⟨xs, e1⟩ := hb H b
    exact ⟨_, xs, rfl, rfl, e1, q _ _ (.upd e1 (fun _ z => by cases z) (.inl hq)) (hG H _ b ⟨rfl, [], upd_same, .nil⟩ (.upd e1 (fun _ z => by cases z) fun z => z rfl)) .non⟩) hbase hline) hsw
end
end Dx
set_option Elab.async false
set_option linter.all false
set_option maxRecDepth 100000
set_option maxHeartbeats 4000000
namespace RQ
open PySem PySem.Spec PyProof.Rows L2 Dx
def entryD (p : Int × List Deed) : D := .tup [.int p.1, .tup (p.2.map deedD)]
theorem deed_flat (d : Deed) : flatD (deedD d) = true := by
  cases d with
  | put n key weight due origin => cases origin <;> rfl
  | _ => rfl
theorem deeds_flat : ∀ ds : List Deed, flatL (ds.map deedD) = true
  | [] => rfl
  | d :: ds => by
    show (flatD (deedD d) && flatL (ds.map deedD)) = true
    rw [deed_flat, deeds_flat ds] <;> rfl
theorem entry_flat (p : Int × List Deed) : flatD (entryD p) = true := by
  show (true && (flatL (p.2.map deedD) && true)) = true
  rw [deeds_flat] <;> rfl
theorem entries_flat : ∀ es : List (Int × List Deed), flatL (es.map entryD) = true
  | [] => rfl
  | e :: es => by
    show (flatD (entryD e) && flatL (es.map entryD)) = true
    rw [entry_flat, entries_flat es] <;> rfl
abbrev Log := List (Int × List Deed)
def logD (es : Log) : D := .tup (es.map entryD)
section
variable {P : Program} {w : World} {K : PySem.W.Frag} {mg : Str → Option Value} {base : Heap}
abbrev boO (K : PySem.W.Frag) (b a q : Addr) (es : Log) (e u : Addr) : As := insA K b (atG "Book" K) [("by", .ref a), ("inner", .ref q), ("entries", logD es), ("earlier", .ref e), ("undone", .ref u)]
theorem ins_lst_ne {q l C : Addr} {ds : List D} {fs : List (Str × D)} {H : Hp} (h1 : (insA K q C fs).p H) (h2 : (lstA K l ds).p H) : l ≠ q := fun z => by
  obtain ⟨dx, fs, h1, _⟩ := h1
  obtain ⟨_, xs, h2, _⟩ := h2
  rw [z, h1] at h2
  cases h2
theorem ins_earl_ne {q l C : Addr} {n : Nat} {last : Option D} {fs : List (Str × D)} {H : Hp} (h1 : (insA K q C fs).p H) (h2 : (earlA K l n last).p H) : l ≠ q := let ⟨_, h, _⟩ := h2; ins_lst_ne h1 h
theorem tab_lst_ne {t l : Addr} {ds : List D} {es : List (Str × D)} {H : Hp} (h1 : (tabA K t es).p H) (h2 : (lstA K l ds).p H) : t ≠ l := fun z => by
  obtain ⟨kvs, h1, _⟩ := h1
  obtain ⟨_, xs, h2, _⟩ := h2
  rw [← z, h1] at h2
  cases h2
/-! ### Book.__init__ -/
def preBI (K : PySem.W.Frag) : AS → Hp → List D → List Addr → (Gh → As) → (Gh → D) → Prop := fun M H ds Sx C d => ∃ (b a : Addr) (dx : Addr) (v : V), ds = [.ref b, .ref a] ∧ (insA K b (atG "Book" K) []).p H ∧ H a = some (.ins (atG "Setting" K) dx [("texts", v)]) ∧ Sx = [b] ∧
  C = (fun g => (boO K b a (g 0) [] (g 2) (g 3)).and ((quO K (g 0) a (g 1) 0).and ((tabA K (g 1) []).and ((earlA K (g 2) 0 none).and ((lstA K (g 3) []).and (As.pure (g 2 ≠ g 3))))))) ∧ d = fun _ => .non
theorem sc_BI : FnScope ["self", "setting"] ["self", "setting"] (defScope s_Book_init) := ⟨rfl, rfl, rfl, by decide +kernel, rfl, by decide +kernel, by decide +kernel⟩
def gh2 (g1 g2 : Gh) : Gh := fun i => match i with
  | 0 => g1 0
  | 1 => g1 1
  | 2 => g2 0
  | _ => g2 1
theorem h_Book_init (T : Txt K mg) : Has P w K mg base 3 (atM "Book" "__init__" K) ["self", "setting"] (spWG K (preBI K)) := by
  obtain ⟨fd, F⟩ := f_Book_init T
  refine ⟨fd, okWG F sc_BI (fun M H ds Sx C d h => ?_) fun cdv A outer s H E M ds Sx C d hr tr h => ?_, F.bindsN fun _ _ _ _ _ _ us hl => match us, hl with | [_, _], _ => rfl, F.kp⟩
  · obtain ⟨_, _, _, _, rfl, _⟩ := h
    rfl
  · obtain ⟨b, a, dx, v, rfl, hi, ha, rfl, rfl, rfl⟩ := h
    have hab : a ≠ b := ins_set_ne hi (by show (0 : Nat) ≠ 1; decide) ha
    have hbn : ∀ x, H x = none → x ≠ b := fun x hx z => by
      obtain ⟨dx, fs, h1, _⟩ := hi
      rw [← z, hx] at h1
      cases h1
    refine ⟨(As.mv [b] H).and (insA K b (atG "Book" K) []), .all fun g1 => .all fun g2 => .nx ((As.mv [b] H).and ((boO K b a (g1 0) [] (g2 0) (g2 1)).and ((quO K (g1 0) a (g1 1) 0).and ((tabA K (g1 1) []).and ((earlA K (g2 0) 0 none).and ((lstA K (g2 1) []).and (As.pure (g2 0 ≠ g2 1)))))))) (startD ["self", "setting"] [.ref b, .ref a]), ⟨.refl H, hi⟩, fun g1 n1 g2 n2 H' c => ⟨gh2 g1 g2, fun i => by
      unfold gh2
      split
      · exact n1 0
      · exact n1 1
      · exact n2 0
      · exact n2 1, c.1, c.2, rfl⟩, ?_⟩
    refine ss_cons (s_ifF (t_is (t_not (t_val (e_isiOwn (B := (As.mv [b] H).and (insA K b (atG "Book" K) [])) (n_isinstance T) (e_var 1) (g_Setting T) (fun H' c => ty_Setting T (c.1.keep _ _ ha fun z => hab (List.mem_singleton.mp z)))))) rfl))
      (ss_cons (s_putF (es := []) (C := (As.mv [b] H).and (insA K b (atG "Book" K) [])) (Es := (As.mv [b] H).and (insA K b (atG "Book" K) [("by", .ref a)])) (cl_Book T) (na_Book_by T) (e_var 1) (e_var 0) (fun H' c => c.2) rfl (by decide) (fun H' u c i f => ⟨mv_put c.1 (List.mem_singleton.mpr rfl) f, i⟩))
      (ss_consGo id (s_put2G (q := b) (es := [("by", .ref a)]) (Bg := fun g1 => ((As.mv [b] H).and (insA K b (atG "Book" K) [("by", .ref a)])).and (((quO K (g1 0) a (g1 1) 0).and (tabA K (g1 1) [])).and (As.pure (H (g1 0) = none)))) (d1 := fun g1 => .ref (g1 0)) (d2 := fun _ => logD [])
          (Es := fun g1 => ((As.mv [b] H).and (insA K b (atG "Book" K) [("by", .ref a), ("inner", .ref (g1 0)), ("entries", logD [])])).and (((quO K (g1 0) a (g1 1) 0).and (tabA K (g1 1) [])).and (As.pure (H (g1 0) = none)))) (cl_Book T) (na_Book_inner T) (na_Book_entries T) rfl
          (g_tup (a_consG (g_make H (B := (As.mv [b] H).and (insA K b (atG "Book" K) [("by", .ref a)])) (Gi := fun q g' => ((As.mv [b] H).and (insA K b (atG "Book" K) [("by", .ref a)])).and (((quO K q a (g' 0) 0).and (tabA K (g' 0) [])).and (As.pure (H q = none)))) (mk_Queue T) (h_Queue_init T) hr (g_Queue T) (a_one (e_var 1)) (mv_free fun _ c => c.1) fun q hq => spWG_ok (fun H1 c => ⟨q, a, rfl, c.2, rfl, rfl, rfl⟩) fun g' H1 H' n c m k =>
              ⟨⟨c.1.1.skip m hq, (insA K b (atG "Book" K) [("by", .ref a)]).frame m (fun y hy l => absurd ((List.mem_singleton.mp hy).symm.trans l) (hbn q hq)) c.1.2⟩, k, hq⟩)
            fun g => a_one (e_tup a_nil)) (fun g => by show 2 ≤ 100; decide)) (fun A => e_var 0) (fun A => e_var 0) (fun g H' c => c.1.2) (fun _ => rfl) (fun _ => rfl) (by show 1 < 900; decide)
          (fun g1 H' u c i f => ⟨⟨mv_put c.1.1 (List.mem_singleton.mpr rfl) f, i⟩, ⟨(quO K (g1 0) a (g1 1) 0).fr (f.less fun x (l : x = g1 0) z => hbn _ c.2.2 (l.symm.trans z)) c.2.1.1, (tabA K (g1 1) []).fr (f.less fun x (l : x = g1 1) z => ins_tab_ne c.1.2 c.2.1.2 (l.symm.trans z)) c.2.1.2⟩, c.2.2⟩)) fun g1 => ?_))
    refine ss_consGo id (s_put2G (q := b) (es := [("by", .ref a), ("inner", .ref (g1 0)), ("entries", logD [])]) (d1 := fun g2 => .ref (g2 0)) (d2 := fun g2 => .ref (g2 1)) (cl_Book T) (na_Book_earlier T) (na_Book_undone T) rfl (g_twoL (A := ((As.mv [b] H).and (insA K b (atG "Book" K) [("by", .ref a), ("inner", .ref (g1 0)), ("entries", logD [])])).and (((quO K (g1 0) a (g1 1) 0).and (tabA K (g1 1) [])).and (As.pure (H (g1 0) = none)))))
        (Es := fun g2 => (As.mv [b] H).and ((boO K b a (g1 0) [] (g2 0) (g2 1)).and ((quO K (g1 0) a (g1 1) 0).and ((tabA K (g1 1) []).and ((earlA K (g2 0) 0 none).and ((lstA K (g2 1) []).and (As.pure (g2 0 ≠ g2 1)))))))) (fun A => e_var 0) (fun A => e_var 0) (fun g H' c => c.1.1.1.2) (fun _ => rfl) (fun _ => rfl) (by show 3 < 900; decide)
        (fun g2 H' u c i f => ⟨mv_put c.1.1.1.1 (List.mem_singleton.mpr rfl) f, i, (quO K (g1 0) a (g1 1) 0).fr (f.less fun x (l : x = g1 0) z => hbn _ c.1.1.2.2 (l.symm.trans z)) c.1.1.2.1.1, (tabA K (g1 1) []).fr (f.less fun x (l : x = g1 1) z => ins_tab_ne c.1.1.1.2 c.1.1.2.1.2 (l.symm.trans z)) c.1.1.2.1.2,
          ⟨[], (lstA K (g2 0) []).fr (f.less fun x (l : x = g2 0) z => ins_lst_ne c.1.1.1.2 c.1.2 (l.symm.trans z)) c.1.2, rfl, fun d hd => by cases hd⟩, (lstA K (g2 1) []).fr (f.less fun x (l : x = g2 1) z => ins_lst_ne c.1.1.1.2 c.2.1 (l.symm.trans z)) c.2.1, c.2.2⟩)) fun g2 => ss_nil
/-! ### turn_to -/
def preTT (K : PySem.W.Frag) : AS → Hp → List D → List Addr → As → D → Prop := fun M H ds Sx C d => ∃ (b a q e u q' : Addr) (es es' : Log) (n : Nat) (last : Option D) (us : List D), ds = [.ref b, logD es', .ref q'] ∧ (boO K b a q es e u).p H ∧ (earlA K e n last).p H ∧ (lstA K u us).p H ∧ M.c e ∧ M.c u ∧ e ≠ u ∧ n < 1000 ∧ Sx = [b, e, u] ∧
  C = (boO K b a q' es' e u).and ((earlA K e (n + 1) (some (.tup [logD es, .ref q]))).and (lstA K u [])) ∧ d = .non
theorem sc_TT : FnScope ["self", "entries", "kept"] ["self", "entries", "kept"] (defScope s_Book_turn_to) := ⟨rfl, rfl, rfl, by decide +kernel, rfl, by decide +kernel, by decide +kernel⟩
theorem logD_flat (es : Log) : flatD (logD es) = true := entries_flat es
theorem h_turn_to (T : Txt K mg) : Has P w K mg base 1 (atM "Book" "turn_to" K) ["self", "entries", "kept"] (spW K (preTT K)) := by
  obtain ⟨fd, F⟩ := f_Book_turn_to T
  refine ⟨fd, okW F sc_TT (fun M H ds Sx C d h => ?_) fun cdv A outer s H E M ds Sx C d hr tr h => ?_, F.bindsN fun _ _ _ _ _ _ us hl => match us, hl with | [_, _, _], _ => rfl, F.kp⟩
  · obtain ⟨_, _, _, _, _, _, _, _, _, _, _, rfl, _⟩ := h
    rfl
  · obtain ⟨b, a, q, e, u, q', es, es', n, last, us, rfl, hb, he, hu, me, mu, hne, hn, rfl, rfl, rfl⟩ := h
    have hz : n < sizeLine := Nat.lt_of_lt_of_le hn (by decide)
    refine ⟨(As.mv [b, e, u] H).and ((boO K b a q es e u).and ((earlA K e n last).and (lstA K u us))), .all fun _ => .nx ((As.mv [b, e, u] H).and ((boO K b a q' es' e u).and ((earlA K e (n + 1) (some (.tup [logD es, .ref q]))).and (lstA K u [])))) (startD ["self", "entries", "kept"] [.ref b, logD es', .ref q']), ⟨.refl H, hb, he, hu⟩, fun g _ H' c => ⟨c.1, c.2, rfl⟩, ?_⟩
    refine ss_cons (s_eapp (B := (As.mv [b, e, u] H).and ((boO K b a q es e u).and ((earlA K e n last).and (lstA K u us)))) (C := (As.mv [b, e, u] H).and ((boO K b a q es e u).and ((earlA K e n last).and (lstA K u us)))) (G := (As.mv [b, e, u] H).and ((boO K b a q es e u).and ((earlA K e (n + 1) (some (.tup [logD es, .ref q]))).and (lstA K u us)))) (cpos := ⟨_, _, _, _⟩)
        (e_getF (cl_Book T) (na_Book_earlier T) (e_var 0) (fun H' c => c.2.1) rfl) (e_tup (a_cons (e_getF (cl_Book T) (na_Book_entries T) (e_var 0) (fun H' c => c.2.1) rfl) (a_one (e_getF (cl_Book T) (na_Book_inner T) (e_var 0) (fun H' c => c.2.1) rfl)))) me (fun H' c => c.2.2.1) (fun H' c => c.2.2.1) (by show (flatD (logD es) && (true && true)) = true; rw [logD_flat] <;> rfl) hz
        (fun H' v c i f => ⟨mv_put c.1 (by simp) f, (boO K b a q es e u).fr (f.less fun x (l : x = b) z => ins_earl_ne c.2.1 c.2.2.1 (z.symm.trans l)) c.2.1, i, (lstA K u us).fr (f.less fun x (l : x = u) z => hne (z.symm.trans l)) c.2.2.2⟩))
      (ss_cons (s_oclear (B := (As.mv [b, e, u] H).and ((boO K b a q es e u).and ((earlA K e (n + 1) (some (.tup [logD es, .ref q]))).and (lstA K u us)))) (G := (As.mv [b, e, u] H).and ((boO K b a q es e u).and ((earlA K e (n + 1) (some (.tup [logD es, .ref q]))).and (lstA K u []))))
        (e_getF (cl_Book T) (na_Book_undone T) (e_var 0) (fun H' c => c.2.1) rfl) mu (fun H' c => let ⟨_, xs, h1, _⟩ := c.2.2.2; ⟨xs, h1⟩)
        (fun H' v c i f => ⟨mv_put c.1 (by simp) f, (boO K b a q es e u).fr (f.less fun x (l : x = b) z => ins_lst_ne c.2.1 c.2.2.2 (z.symm.trans l)) c.2.1, (earlA K e (n + 1) _).fr (f.less fun x (l : x = e) z => hne (l.symm.trans z)) c.2.2.1, i⟩))
      (ss_one (s_put2G (q := b) (es := [("by", .ref a), ("inner", .ref q), ("entries", logD es), ("earlier", .ref e), ("undone", .ref u)]) (Bg := fun _ => (As.mv [b, e, u] H).and ((boO K b a q es e u).and ((earlA K e (n + 1) (some (.tup [logD es, .ref q]))).and (lstA K u [])))) (d1 := fun _ => logD es') (d2 := fun _ => .ref q') (cl_Book T) (na_Book_entries T) (na_Book_inner T) rfl (g_tupC (a_cons (e_var 1) (a_one (e_var 2))) (by show 2 ≤ 100; decide)) (fun A => e_var 0) (fun A => e_var 0) (fun g H' c => c.2.1) (fun _ => logD_flat es') (fun _ => rfl) (by show 5 < 900; decide)
        (fun g H' v c i f => ⟨mv_put c.1 (by simp) f, i, (earlA K e (n + 1) _).fr (f.less fun x (l : x = e) z => ins_earl_ne c.2.1 c.2.2.1 (l.symm.trans z)) c.2.2.1, (lstA K u []).fr (f.less fun x (l : x = u) z => ins_lst_ne c.2.1 c.2.2.2 (l.symm.trans z)) c.2.2.2⟩))))
/-! ### Book.do -/
structure BoS (K : PySem.W.Frag) (H : Hp) (b a q t e u : Addr) (S : Cfg) (es : Log) (clk : Int) (tab : Tab) (n : Nat) (last : Option D) : Prop where
  bo : (boO K b a q es e u).p H
  qu : QuR K H q a t clk tab
  ea : (earlA K e n last).p H
  un : (lstA K u []).p H
  set : ∃ dx t', H a = some (.ins (atG "Setting" K) dx [("texts", .ref t')]) ∧ H t' = some (.dK (kvsS S))
  ok : SOk S
  tok : TabOk tab
  ne : e ≠ u
  n : n < 1000
/-- a book's things -/
def boA (K : PySem.W.Frag) (b a q t e u : Addr) (es : Log) (clk : Int) (tab : Tab) (n : Nat) (last : Option D) : As :=
  (boO K b a q es e u).and (((earlA K e n last).and (lstA K u [])).and ((quO K q a t clk).and (tabA K t (tabD tab))))
theorem set_none {H : Hp} {a x : Addr} {S : Cfg} (h : ∃ dx t', H a = some (.ins (atG "Setting" K) dx [("texts", .ref t')]) ∧ H t' = some (.dK (kvsS S))) (hx : H x = none) {H1 : Hp} (e : Same H H1) : ∃ dx t', H1 a = some (.ins (atG "Setting" K) dx [("texts", .ref t')]) ∧ H1 t' = some (.dK (kvsS S)) ∧ t' ≠ x :=
  let ⟨dx, t', h1, h2⟩ := h; ⟨dx, t', e _ _ h1, e _ _ h2, fun z => by rw [z, hx] at h2; cases h2⟩
def preBDo (K : PySem.W.Frag) : AS → Hp → List D → List Addr → (Gh → As) → (Gh → D) → Prop := fun M H ds Sx C d => ∃ (b a q t e u : Addr) (S : Cfg) (es : Log) (clk now : Int) (tab : Tab) (n : Nat) (last : Option D) (deeds : List Deed), ds = [.ref b, .int now, .lst (deeds.map deedD)] ∧ BoS K H b a q t e u S es clk tab n last ∧ M.c e ∧ M.c u ∧
  clk ≤ now ∧ DeedsOk S now (settledT S now tab) deeds ∧ deeds.length ≤ 1000 ∧ es.length < 100 ∧ Sx = [b, e, u] ∧
  C = (fun g => boA K b a (g 0) (g 1) e u (es ++ [(now, deeds)]) now (doT S now tab deeds) (n + 1) (some (.tup [logD es, .ref q]))) ∧ d = fun _ => .lst (doR S now tab deeds)
theorem sc_BD : FnScope ["self", "now", "deeds", "kept", "results"] ["self", "now", "deeds"] (defScope s_Book_do) := ⟨rfl, rfl, rfl, by decide +kernel, rfl, by decide +kernel, by decide +kernel⟩
def gh11 (g1 g2 : Gh) : Gh := fun i => match i with
  | 0 => g1 0
  | _ => g2 0
theorem qu_nolk {q a t : Addr} {clk : Int} {H : Hp} {m : Str} (h : (quO K q a t clk).p H) (hm : List.lookup m [(("by" : Str), D.ref a), ("table", .ref t), ("clock", .int clk)] = none := by rfl) : ∃ dx fs, H q = some (.ins (atG "Queue" K) dx fs) ∧ fs.lookup m = none := let ⟨dx, fs, h1, h2⟩ := h; ⟨dx, fs, h1, h2.getN hm⟩
theorem bo_nolk {b a q e u : Addr} {es : Log} {H : Hp} {m : Str} (h : (boO K b a q es e u).p H) (hm : List.lookup m [(("by" : Str), D.ref a), ("inner", .ref q), ("entries", logD es), ("earlier", .ref e), ("undone", .ref u)] = none := by rfl) : ∃ dx fs, H b = some (.ins (atG "Book" K) dx fs) ∧ fs.lookup m = none := let ⟨dx, fs, h1, h2⟩ := h; ⟨dx, fs, h1, h2.getN hm⟩
theorem h_Book_do (T : Txt K mg) : Has P w K mg base 10 (atM "Book" "do" K) ["self", "now", "deeds"] (spWG K (preBDo K)) := by
  obtain ⟨fd, F⟩ := f_Book_do T
  refine ⟨fd, okWG F sc_BD (fun M H ds Sx C d h => ?_) fun cdv A outer s H E M ds Sx C d hr tr h => ?_, F.bindsN fun _ _ _ _ _ _ us hl => match us, hl with | [_, _, _], _ => rfl, F.kp⟩
  · obtain ⟨_, _, _, _, _, _, _, _, _, _, _, _, _, _, rfl, _⟩ := h
    rfl
  · obtain ⟨b, a, q, t, e, u, S, es, clk, now, tab, n, last, deeds, rfl, hB, me, mu, hclk, hdeeds, hlen, hes, rfl, rfl, rfl⟩ := h
    have hb : ∀ H', Same H H' → (boO K b a q es e u).p H' := fun H' e0 => (boO K b a q es e u).mono e0 hB.bo
    have trk : ∀ x, H x = none → x ≠ b ∧ x ≠ e ∧ x ≠ u := fun x hx => ⟨fun z => (boO K b a q es e u).trk hB.bo rfl (z ▸ hx), fun z => (earlA K e n last).trk hB.ea rfl (z ▸ hx), fun z => (lstA K u []).trk hB.un rfl (z ▸ hx)⟩
    refine ⟨As.same H, .all fun g1 => .all fun g2 => .rt ((As.mv [b, e, u] H).and (boA K b a (g1 0) (g2 0) e u (es ++ [(now, deeds)]) now (doT S now tab deeds) (n + 1) (some (.tup [logD es, .ref q])))) (.lst (doR S now tab deeds)), Same.refl H, fun g1 n1 g2 n2 H' c => ⟨gh11 g1 g2, fun i => by
      unfold gh11
      split
      · exact n1 0
      · exact n2 0, c.1, c.2, rfl⟩, ?_⟩
    refine ss_cons (s_ifF (t_is (t_eqI (e_lenT (n_len T) (e_getF (cl_Book T) (na_Book_entries T) (e_var 0) hb rfl)) (e_constI (i_MOST_TRANSACTIONS T))) (by rw [List.length_map]; exact decide_eq_false (by omega))))
      (ss_consGo id (s_setG 3 sc_BD.nd (g_meth0 (Gg := fun g => (As.same H).and (((quO K (g 0) a (g 1) clk).and (tabA K (g 1) (tabD tab))).and (As.pure (H (g 0) = none ∧ H (g 1) = none)))) (cl_Queue T) (me_Queue_copied T) (h_Queue_copied T) (hr.mono (by decide)) (e_getF (cl_Book T) (na_Book_inner T) (e_var 0) hb rfl) (fun H' e0 => qu_nolk (hB.qu.same e0).1)
        (spWG_ok (fun H1 e0 => ⟨q, a, t, clk, tab, rfl, hB.qu.same e0, rfl, rfl, rfl⟩) fun g H1 H' nw e0 m k => ⟨e0.trans m.same, k, (Mv.of_same e0 : Mv [] H H1).free (nw 0), (Mv.of_same e0 : Mv [] H H1).free (nw 1)⟩))) fun g1 => ?_)
    refine ss_consGo id (s_setG 4 sc_BD.nd (g_meth (B := (As.same H).and (((quO K (g1 0) a (g1 1) clk).and (tabA K (g1 1) (tabD tab))).and (As.pure (H (g1 0) = none ∧ H (g1 1) = none)))) (Gg := fun g2 => (As.same H).and (((quO K (g1 0) a (g2 0) now).and (tabA K (g2 0) (tabD (doT S now tab deeds)))).and (As.pure (H (g1 0) = none)))) (cl_Queue T) (me_Queue_do T) (h_Queue_do T) hr (e_var 3) (fun H' c => qu_nolk c.2.1.1) (a_cons (e_var 1) (a_one (e_var 2)))
        (spWG_ok (fun H1 c => ⟨g1 0, a, g1 1, S, clk, now, tab, deeds, rfl, ⟨c.2.1.1, c.2.1.2, set_none hB.set c.2.2.2 c.1, hB.ok, hB.tok⟩, hclk, hdeeds, hlen, rfl, rfl, rfl⟩) fun g2 H1 H' nw c m k => ⟨((Mv.of_same c.1 : Mv [] H H1).skip m c.2.2.1).same, k, c.2.2.1⟩))) fun g2 => ?_
    refine ss_cons (s_expr (c_meth (B := (As.same H).and (((quO K (g1 0) a (g2 0) now).and (tabA K (g2 0) (tabD (doT S now tab deeds)))).and (As.pure (H (g1 0) = none)))) (C := (As.same H).and (((quO K (g1 0) a (g2 0) now).and (tabA K (g2 0) (tabD (doT S now tab deeds)))).and (As.pure (H (g1 0) = none)))) (cl_Book T) (me_Book_turn_to T) (h_turn_to T) (hr.mono (by decide)) (e_var 0) (fun H' c => bo_nolk (hb H' c.1))
        (a_cons (e_is (d' := logD (es ++ [(now, deeds)])) (e_catT (e_getF (cl_Book T) (na_Book_entries T) (e_var 0) (fun H' c => hb H' c.1) rfl) (e_tup (a_one (e_tup (a_cons (e_var 1) (a_one (e_tupleL (n_tuple T) (e_var 2))))))) (by rw [List.length_map]; exact Nat.le_trans (Nat.succ_le_of_lt hes) (by decide))) (by unfold logD; rw [List.map_append] <;> rfl)) (a_one (e_var 3)))
        (spW_ok (fun H1 c => ⟨b, a, q, e, u, g1 0, es, es ++ [(now, deeds)], n, last, [], rfl, hb H1 c.1, (earlA K e n last).mono c.1 hB.ea, (lstA K u []).mono c.1 hB.un, me, mu, hB.ne, hB.n, rfl, rfl, rfl⟩)
          (G := (As.mv [b, e, u] H).and (boA K b a (g1 0) (g2 0) e u (es ++ [(now, deeds)]) now (doT S now tab deeds) (n + 1) (some (.tup [logD es, .ref q])))) fun H1 H' c m k => ⟨(Mv.of_same c.1).trans m, k.1, k.2, (quO K (g1 0) a (g2 0) now).frame m (fun y hy l => ?_) c.2.1.1, (tabA K (g2 0) _).frame m (fun y hy l => ?_) c.2.1.2⟩)))
      (ss_one (s_ret (e_var 4)))
    · obtain ⟨k1, k2, k3⟩ := trk _ c.2.2
      have l : y = g1 0 := l
      subst l
      simp at hy
      rcases hy with hy | hy | hy
      · exact absurd hy k1
      · exact absurd hy k2
      · exact absurd hy k3
    · have l : y = g2 0 := l
      subst l
      simp at hy
      rcases hy with hy | hy | hy
      · exact absurd hy (ins_tab_ne (hb H1 c.1) c.2.1.2)
      · obtain ⟨ds, hd, _⟩ := (earlA K e n last).mono c.1 hB.ea
        exact absurd hy (tab_lst_ne c.2.1.2 hd)
      · exact absurd hy (tab_lst_ne c.2.1.2 ((lstA K u []).mono c.1 hB.un))
end
end RQ
set_option Elab.async false
set_option linter.all false
set_option maxRecDepth 100000
set_option maxHeartbeats 4000000
namespace Dx
open PySem PySem.Spec PyProof.Rows L2
section
variable {X : Cx} {M : AS} {A B C G : As} {δ δ' : LS} {pos p p2 apos cpos : Pos} {x y z d : D} {a b e o tg iter : Expr} {items : List D} {st : Stmt} {rest sts : List Stmt} {ou : Out}
theorem ss_toR' {sts : List Stmt} (h : PSs X sts (tO X.K M A δ (.rt B d))) (i : ∀ H, B.p H → C.p H) : PSs X sts (tO X.K M A δ (.rt C d)) := pss_imp h fun E σ H ⟨s, q⟩ => ⟨s, fun v H' k b r => q v H' k (i H' b) r⟩
theorem ss_toX {sts : List Stmt} {p : Hp → D → Prop} (h : PSs X sts (tO X.K M A δ (.rt B d))) (i : ∀ H, B.p H → p H d) : PSs X sts (tO X.K M A δ (.rx p)) := pss_imp h fun E σ H ⟨s, q⟩ => ⟨s, fun v H' k b r => q v H' d k (i H' b) r⟩
/-- an outcome that goes on -/
def Out.nxOk (φ : Hp → Prop) (δ : LS) : Out → Prop
  | .nx B δ'' => (∃ js : List Nat, δ = wipeL δ'' js) ∧ ∀ H', B.p H' → φ H'
  | .all o => ∀ g, (o g).nxOk φ δ
  | _ => False
theorem RelS.wipeO {K : PySem.W.Frag} {H : Hp} {σ : L2.St} {δ : LS} (r : RelS K M H σ δ) : ∀ js : List Nat, RelS K M H σ (wipeL δ js)
  | [] => r
  | j :: js => (RelS.wipeO r js).forget j
theorem Out.nx_ok {K : PySem.W.Frag} {φ : Hp → Prop} {δ : LS} {H : Hp} {E : Ends} (q : ∀ σ' H', Kp M H H' → φ H' → RelS K M H' σ' δ → E.nx σ' H') : ∀ {o : Out}, o.nxOk φ δ → o.ok K M H E
  | .nx B δ'', ⟨⟨js, e⟩, h⟩ => fun σ' H' k b r => q σ' H' k (h H' b) (by rw [e]; exact r.wipeO js)
  | .rt _ _, h => h.elim
  | .bk _ _, h => h.elim
  | .rx _, h => h.elim
  | .all o, h => fun g _ => Out.nx_ok q (h g)
/-- a for as a fold whose state names new things -/
theorem ss_forG {α β : Type} (f : β → α → α) (enc : β → D) (At : α → Gh → As) (P : Nat → α → Prop) {body : List Stmt} {g : TG} {js : List Nat} {tf : D → LS → Option LS} (bs : List β) (s0 : α) (g0 : Gh) (hp : PassesOwn (model X.prog X.w) X.A X.env X.xe) (hc : X.calm = true)
    {W : Hp → Prop} (hi : PIt X M tg iter A δ (At s0 g0) W (bs.map enc)) (hW : ∀ s g H, (At s g).p H → W H) (hP : P 0 s0) (hg : PG X tg g) (tgk : TgOk X.K g js tf)
    (turn : ∀ i b s gg, bs[i]? = some b → P i s → ∃ δ' o, tf (enc b) δ = some δ' ∧ P (i + 1) (f b s) ∧ Out.nxOk (fun H' => ∃ g', (At (f b s) g').p H') δ o ∧ PSs X body (tO X.K M (At s gg) δ' o))
    (h2 : ∀ gg, PSs X rest (tO X.K M (At (bs.foldl (fun s b => f b s) s0) gg) δ ou))
    (hs : ∀ x, foldedSetIterable iter X.env x = pure x := by intro _; rfl) : PSs X (.For tg iter body [] pos :: rest) (tO X.K M A δ ou) := by
  have step : ∀ i b, bs[i]? = some b → (bs.take (i + 1)).foldl (fun s b => f b s) s0 = f b ((bs.take i).foldl (fun s b => f b s) s0) := by
    intro i b hb
    have e : bs.take (i + 1) = bs.take i ++ [b] := by rw [List.take_succ, hb] <;> rfl
    rw [e, List.foldl_append] <;> rfl
  obtain ⟨wi, hpi, hwi⟩ := hi.ex
  refine pss_imp (pss_cons (ps_for hp hc hpi hg (pss_any (sts := body)) hs) (pss_any (sts := rest))) fun E σ H ⟨s, q⟩ => ?_
  refine hwi σ H _ s fun J n G Y H1 k1 b1 w hn hGY => ?_
  obtain ⟨hG, hY⟩ := hGY M fun a h => .inl h
  have tr1 := tr_kp s.tr k1
  have q1 : Out.ok X.K M H1 E ou := Out.ok_kp k1 q
  refine for_it w (fun i σ' H' => P i ((bs.take i).foldl (fun s b => f b s) s0) ∧ Kp M H1 H' ∧ (∃ gg, (At ((bs.take i).foldl (fun s b => f b s) s0) gg).p H') ∧ RelS X.K M H' σ' δ) ⟨hP, Kp.refl _, ⟨g0, b1⟩, s.s.kp k1⟩ (fun i σ' H' _ ⟨_, kp, ⟨gg, a⟩, _⟩ => hG H' kp (hW _ gg H' a)) (fun i x σ2 H2 H3 hi2 pv y => ?_) fun σ2 H2 pv => ?_
  · obtain ⟨pp, k2, ⟨gg, a2⟩, s2⟩ := pv
    obtain ⟨sm, d, ed, rd⟩ := hY i H2 x H3 k2 y hi2
    have k3 : Kp M H1 H3 := k2.trans (.of_same sm)
    rw [List.getElem?_map] at ed
    cases eb : bs[i]? with
    | none =>
      rw [eb] at ed
      cases ed
    | some b =>
      rw [eb] at ed
      cases ed
      obtain ⟨δ', o, ef, pp', ho, hb⟩ := turn i b _ gg eb pp
      refine tgk M x _ _ δ' σ2 H3 _ ef rd (s2.kp (.of_same sm)) fun σ' s' _ => ?_
      refine ⟨_, hb, ⟨(At _ gg).mono sm a2, tr_kp tr1 k3, s'⟩, Out.nx_ok (fun σ4 H4 k4 a4 s4 => ?_) ho⟩
      rw [step i b eb]
      exact ⟨pp', k3.trans k4, a4, s4⟩
  · obtain ⟨pp, k2, ⟨gg, a2⟩, s2⟩ := pv
    rw [hn, List.length_map, List.take_length] at a2
    exact ⟨_, h2 gg, ⟨a2, tr_kp tr1 k2, s2⟩, Out.ok_kp k2 q1⟩
/-- o.f, o.h = e -/
theorem s_put2 {q Cl : Addr} {n m : Str} {es : List (Str × D)} {p1 p2 tp : Pos} {kt : Nat} {o1 o2 : Expr} {d1 d2 : D} (cl : Cls X.K Cl) (na : NoAttr X.K Cl n) (nb : NoAttr X.K Cl m) (hc : X.calm = true) (he : PE X e (tC X.K M A δ B (.tup [d1, d2]))) (ho1 : ∀ A : As, PE X o1 (tC X.K M A δ A (.ref q))) (ho2 : ∀ A : As, PE X o2 (tC X.K M A δ A (.ref q)))
    (hi : ∀ H, B.p H → (insA X.K q Cl es).p H) (hf1 : flatD d1 = true) (hf2 : flatD d2 = true) (hl : es.length < 900) {Es : As}
    (hE : ∀ H u, B.p H → (insA X.K q Cl (putFD m d2 (putFD n d1 es))).p (upd H q u) → Fr (fun a => a ≠ q) H (upd H q u) → Es.p (upd H q u))
    (hs : swapsWithSole [.Tuple [.Attribute o1 n p1, .Attribute o2 m p2] kt tp] e pos.line X.env = pure false := by rfl) (hw : swappedStores [.Tuple [.Attribute o1 n p1, .Attribute o2 m p2] kt tp] e X.env = pure none := by rfl)
    (h1 : (assignEach [.Tuple [.Attribute o1 n p1, .Attribute o2 m p2] kt tp] X.env).map (·.2) = [assign (.Tuple [.Attribute o1 n p1, .Attribute o2 m p2] kt tp) X.env] := by rfl)
    (hn : (assignEach [.Attribute o1 n p1, .Attribute o2 m p2] X.env).length = 2 := by rfl) (hst : (assignEach [.Attribute o1 n p1, .Attribute o2 m p2] X.env).findIdx? (·.1) = none := by rfl)
    (g1 : (assignEach (.Attribute o1 n p1 :: [.Attribute o2 m p2]) X.env).map (·.2) = assign (.Attribute o1 n p1) X.env :: (assignEach [.Attribute o2 m p2] X.env).map (·.2) := by rfl) (g2 : (assignEach (.Attribute o2 m p2 :: []) X.env).map (·.2) = assign (.Attribute o2 m p2) X.env :: (assignEach [] X.env).map (·.2) := by rfl) :
    PS X (.Assign [.Tuple [.Attribute o1 n p1, .Attribute o2 m p2] kt tp] e pos) (tO X.K M A δ (.nx Es δ)) := by
  have hany : ∀ e, PE X e (fun σ H Q => ∃ t, PE X e t ∧ t σ H Q) := fun e => ⟨fun pins s σ H Q I ⟨t, h, q⟩ => h.run pins s σ H Q I q⟩
  refine ps_imp (ps_asg he (pg_tup hc (pgs_cons (pg_fldX (hany o1)) (pgs_cons (pg_fldX (hany o2)) pgs_nil g2) g1) hn hst) hs hw h1) fun E σ H ⟨s, h⟩ => ⟨s, fun v H1 k1 b1 r1 => ?_⟩
  obtain ⟨a, xs, rfl, ht, l1⟩ := r1.tup_inv
  have hlen := l1.length
  cases l1 with
  | cons r1 l1 => cases l1 with
    | cons r2 l1 =>
      cases l1
      rename_i v1 v2
      refine ⟨a, _, rfl, ht, rfl, v1, _, rfl, _, ho1 B, s.kp k1 b1, fun w H2 k2 b2 rw => ?_⟩
      cases rw
      obtain ⟨dx, fs, i1, i2⟩ := hi H2 b2
      have fr : ∀ u, Fr (fun a => a ≠ q) H2 (upd H2 q u) := fun u => .upd i1 (fun _ z => by cases z) fun z => z rfl
      have kp1 : ∀ u, Kp M H2 (upd H2 q u) := fun u => .upd i1 (fun _ z => by cases z) (.inr fun _ z => by cases z)
      have rv1 := (r1.kp k2 _ v1)
      have rv2 := (r2.kp k2 _ v2)
      have f1 : FvR X.K (upd H2 q (.ins Cl dx (putF n v1 fs))) (putF n v1 fs) (putFD n d1 es) := (i2.fr (fr _).tup).put (rv1.flat (fr _).tup _ v1 hf1) hf1
      refine ⟨q, Cl, dx, fs, rfl, i1, cl, na, by rw [i2.len]; omega, v2, _, rfl, _, ho2 ((As.mv [q] H2).and (objA q (.ins Cl dx (putF n v1 fs)))), ?_, fun w H3 k3 b3 rw => ?_⟩
      · exact (s.kp (k1.trans k2) b2).kp (kp1 _) ⟨.upd i1 (fun _ z => by cases z) (List.mem_singleton.mpr rfl), upd_same⟩
      · cases rw
        obtain ⟨mv, e3⟩ := b3
        have e3 : H3 q = some (.ins Cl dx (putF n v1 fs)) := e3
        have fr3 : ∀ u, Fr (fun a => a ≠ q) H3 (upd H3 q u) := fun u => .upd e3 (fun _ z => by cases z) fun z => z rfl
        have back : Fr (fun _ => True) H2 (upd H3 q (.ins Cl dx fs)) := ⟨fun b o _ z => by
          by_cases hb : b = q
          · subst hb
            rw [i1] at z
            rw [upd_same]
            exact z
          · rw [upd_ne hb]
            exact mv.keep b o z fun y => hb (List.mem_singleton.mp y), fun b xs z => (fr3 _).tup b xs (mv.tup b xs z), fun b z => (fr3 _).trk b (mv.trk b z)⟩
        have frb : Fr (fun a => a ≠ q) (upd H3 q (.ins Cl dx fs)) (upd (upd H3 q (.ins Cl dx fs)) q (.ins Cl dx (putF m v2 (putF n v1 fs)))) := .upd upd_same (fun _ z => by cases z) fun z => z rfl
        have key := hE (upd H3 q (.ins Cl dx fs)) (.ins Cl dx (putF m v2 (putF n v1 fs))) (B.fr (back.less fun _ _ => trivial) b2) (by
          refine ⟨dx, _, upd_same, ?_⟩
          rw [upd_upd]
          have f3 : FvR X.K H3 (putF n v1 fs) (putFD n d1 es) := (i2.fr mv.tup).put (rv1.flat mv.tup _ v1 hf1) hf1
          have rv3 : Rp X.K AS.no H3 v2 d2 := rv2.flat mv.tup _ v2 hf2
          exact (f3.fr (fr3 _).tup).put (rv3.flat (fr3 _).tup _ v2 hf2) hf2) frb
        rw [upd_upd] at key
        have kp3 : Kp M H3 (upd H3 q (.ins Cl dx (putF m v2 (putF n v1 fs)))) := .upd e3 (fun _ z => by cases z) (.inr fun _ z => by cases z)
        have kk := ((k1.trans k2).trans (kp1 (.ins Cl dx (putF n v1 fs)))).trans k3
        refine ⟨q, Cl, dx, _, rfl, e3, cl, nb, ?_, rfl, h σ _ (kk.trans kp3) key ((s.s.kp kk).kp kp3)⟩
        have : ∀ (fs : List (Str × V)) (n : Str) (v : V), (putF n v fs).length ≤ fs.length + 1 := by
          intro fs n v
          induction fs with
          | nil => exact Nat.le_refl _
          | cons e fs ih =>
            obtain ⟨g0, x0⟩ := e
            unfold putF
            by_cases z : g0 = n
            · rw [if_pos z]
              exact Nat.le_succ _
            · rw [if_neg z]
              exact Nat.succ_le_succ ih
        have := this fs n v1
        have := i2.len
        omega

/-! ### lists of different lengths -/
def rEqLen (k : Bool) : R2 := fun x y H Q => ∃ a b xs ys, x = .ref a ∧ y = .ref b ∧ H a = some (.lst xs) ∧ H b = some (.lst ys) ∧ xs.length ≠ ys.length ∧ Q (.bl k) H
theorem op_eqLen (hu : X.A.units < cLine) : OpR X (compareOp .Eq) (rEqLen false) := by
  intro pins s σ H x y v u Q I rx ry h
  obtain ⟨a, b, xs, ys, rfl, rfl, ha, hb, hl, q⟩ := h
  obtain rfl : v = Value.ref a := rx
  obtain rfl : u = Value.ref b := ry
  obtain ⟨its, rv, pl, _⟩ := I.list (SqL.of ha)
  obtain ⟨its2, rv2, pl2, _⟩ := I.list (SqL.of hb)
  show wpAny (model X.prog X.w) X.A (richCompare .Eq _ _) _ X.xe s
  refine SeqAt.RcAt.lists_lengths pl.isList pl2.isList ?_ hu X.prog X.w X.xe _ ⟨.bl false, H, I, rfl, q⟩
  rw [List.size_toArray, List.size_toArray, ← rv.length, ← rv2.length]
  exact bne_iff_ne.mpr hl
theorem op_neLen (hu : X.A.units < cLine) : OpR X (compareOp .NotEq) (rEqLen true) := by
  intro pins s σ H x y v u Q I rx ry h
  obtain ⟨a, b, xs, ys, rfl, rfl, ha, hb, hl, q⟩ := h
  obtain rfl : v = Value.ref a := rx
  obtain rfl : u = Value.ref b := ry
  obtain ⟨its, rv, pl, _⟩ := I.list (SqL.of ha)
  obtain ⟨its2, rv2, pl2, _⟩ := I.list (SqL.of hb)
  show wpAny (model X.prog X.w) X.A (richCompare .NotEq _ _) _ X.xe s
  refine SeqAt.RcNeAt.lists_lengths pl.isList pl2.isList ?_ hu X.prog X.w X.xe _ ⟨.bl true, H, I, rfl, q⟩
  rw [List.size_toArray, List.size_toArray, ← rv.length, ← rv2.length]
  exact bne_iff_ne.mpr hl
theorem flatL_take : ∀ (n : Nat) {ds : List D}, flatL ds = true → flatL (ds.take n) = true
  | 0, _, _ => rfl
  | n + 1, [], _ => rfl
  | n + 1, d :: ds, h => by
    have h' : (flatD d && flatL ds) = true := h
    obtain ⟨p1, p2⟩ := Bool.and_eq_true_iff.mp h'
    show (flatD d && flatL (ds.take n)) = true
    rw [p1, flatL_take n p2] <;> rfl
/-- o.pop() -/
theorem e_pop {qa : Addr} {n : Nat} (ho : PE X o (tC X.K M A δ B (.ref qa))) (hq : M.c qa) (hl : ∀ H, B.p H → (earlA X.K qa (n + 1) (some d)).p H) (hG : ∀ H u, B.p H → (earlA X.K qa n none).p (upd H qa u) → Fr (fun a => a ≠ qa) H (upd H qa u) → G.p (upd H qa u))
    (hbase : attributeBase o "pop" X.env (eval o X.env) = eval o X.env := by rfl) (hline : (apos.endLine == cpos.line) = true := by rfl) : PE X (.Call (.Attribute o "pop" apos) [] [] cpos) (tC X.K M A δ G d) :=
  e_bm0 PySem.F.plainAttrs_list PySem.F.slot_list_pop PySem.F.type_list_pop mt_pop ho (fun H v b r => by
    cases r
    obtain ⟨ds, ⟨f, xs, e1, l1⟩, _⟩ := hl H b
    exact .inl ⟨rfl, xs, SqL.of e1⟩) (fun H v b t r Q q => by
    cases r
    obtain ⟨ds, ⟨f, xs, e1, l1⟩, hn, hlast⟩ := hl H b
    have hlast := hlast d rfl
    have fr : ∀ u, Fr (fun a => a ≠ qa) H (upd H qa u) := fun u => .upd e1 (fun _ z => by cases z) fun z => z rfl
    have hne : ds ≠ [] := fun z => by
      rw [z] at hn
      cases hn
    have e0 := List.dropLast_concat_getLast hne
    have e2 : ds.getLast hne = d := by
      have := List.getLast?_eq_some_getLast hne
      rw [this] at hlast
      exact Option.some.inj hlast
    have hd : ds[ds.length - 1]? = some d := by rw [← hlast, List.getLast?_eq_getElem?]
    have hfd : flatD d = true := flatL_get f hd
    obtain ⟨y, hy, ry⟩ := l1.get hd
    have kp : Kp M H (upd H qa (.lst xs.dropLast)) := .upd e1 (fun _ z => by cases z) (.inl hq)
    refine ⟨_, xs, y, rfl, rfl, e1, by rw [l1.length]; exact hy, q _ _ kp (hG H _ b ⟨ds.dropLast, ⟨?_, _, upd_same, ?_⟩, by rw [List.length_dropLast, hn] <;> rfl, fun d' z => by cases z⟩ (fr _)) (ry.flat (fr _).tup d y hfd)⟩
    · rw [List.dropLast_eq_take]
      exact flatL_take _ f
    · rw [List.dropLast_eq_take, List.dropLast_eq_take, l1.length]
      exact ((l1.take _).flat (fr _).tup _ _ (flatL_take _ f))) hbase hline
end
end Dx
set_option Elab.async false
set_option linter.all false
set_option maxRecDepth 100000
set_option maxHeartbeats 4000000
namespace RQ
open PySem PySem.Spec PyProof.Rows L2 Dx
/-! ### runs of a log -/
abbrev QSt := Tab × Int
noncomputable def runE (S : Cfg) (s : QSt) (p : Int × List Deed) : QSt := (doT S p.1 s.1 p.2, p.1)
noncomputable def runL (S : Cfg) (es : Log) (s : QSt) : QSt := es.foldl (fun s p => runE S s p) s
def EntOk (S : Cfg) (s : QSt) (p : Int × List Deed) : Prop := s.2 ≤ p.1 ∧ DeedsOk S p.1 (settledT S p.1 s.1) p.2 ∧ p.2.length ≤ 1000
def LogOk (S : Cfg) : QSt → Log → Prop
  | _, [] => True
  | s, p :: es => EntOk S s p ∧ LogOk S (runE S s p) es
theorem fins_ok {S : Cfg} {now : Int} : ∀ {deeds : List Deed} {tab : Tab}, TabOk tab → DeedsOk S now tab deeds → TabOk (fins (fun dd tb => doneM S now tb dd) deeds tab)
  | [], _, h, _ => h
  | dd :: ds, tab, h, k => fins_ok (deeds := ds) (done_ok h k.1) k.2
theorem doT_ok {S : Cfg} {now : Int} {deeds : List Deed} {tab : Tab} (h : TabOk tab) (k : DeedsOk S now (settledT S now tab) deeds) : TabOk (doT S now tab deeds) := fins_ok (settledT_ok h) k
theorem TabOk.nil : TabOk [] := ⟨List.nodup_nil, Nat.zero_le _, fun e h => by cases h⟩
section
variable {P : Program} {w : World} {K : PySem.W.Frag} {mg : Str → Option Value} {base : Heap}
/-! ### log, queue -/
def logL (es : Log) : D := .lst (es.map fun p => .tup [.int p.1, .lst (p.2.map deedD)])
def preLog (K : PySem.W.Frag) : Hp → List D → D → Prop := fun H ds d => ∃ (b a q e u : Addr) (es : Log), ds = [.ref b] ∧ (boO K b a q es e u).p H ∧ es.length ≤ 1000 ∧ d = logL es
theorem sc_log : FnScope ["self", "now", "deeds"] ["self"] (defScope s_Book_log) := ⟨rfl, rfl, rfl, by decide +kernel, rfl, by decide +kernel, by decide +kernel⟩
def fLog : D → D
  | .tup [t, .tup ds] => .tup [t, .lst ds]
  | _ => .non
theorem h_log (T : Txt K mg) : Has P w K mg base 1 (atM "Book" "log" K) ["self"] (spF K (preLog K)) := by
  obtain ⟨fd, F⟩ := f_Book_log T
  refine ⟨fd, okF F sc_log (fun H ds d h => ?_) (fun H H' ds d e0 ⟨b, a, q, e, u, es, h1, h2, h3⟩ => ⟨b, a, q, e, u, es, h1, (boO K b a q es e u).mono e0 h2, h3⟩) fun cdv A outer s H E M ds d hr h => ?_, F.bindsN fun _ _ _ _ _ _ us hl => match us, hl with | [_], _ => rfl, F.kp⟩
  · obtain ⟨_, _, _, _, _, _, rfl, _⟩ := h
    rfl
  · obtain ⟨b, a, q, e, u, es, rfl, hb, hz, rfl⟩ := h
    refine ⟨.rt (As.same H) _, ⟨fun _ h => h, rfl⟩, ss_one (s_ret (e_is (e_lcM (own := [("now", 1), ("deeds", 2)]) (items := es.map entryD) fLog rfl sc_log.nd (blkOk_by (N := ["self", "now", "deeds"]) (sc := defScope s_Book_log) (by decide +kernel)) (i_tup (e_getF (cl_Book T) (na_Book_entries T) (e_var 0) (fun H' e0 => (boO K b a q es e u).mono e0 hb) rfl)) (fun _ _ => trivial)
      (fun _ _ _ _ _ => pg_tup rfl (pgs_cons (pg_name (i := 1) sc_log.nd rfl (Or.inl rfl)) (pgs_cons (pg_name (i := 2) sc_log.nd rfl (Or.inl rfl)) pgs_nil))) (tg_pair 1 2) (by simp) (by rw [List.length_map]; exact Nat.lt_of_le_of_lt hz (by decide)) fun M' _ _ d hd => ?_) ?_))⟩
    · obtain ⟨p, hp, rfl⟩ := List.mem_map.mp hd
      exact ⟨_, rfl, fun _ _ _ _ _ => e_tup (a_cons (e_var 1) (a_one (e_listT (n_list T) (e_var 2))))⟩
    · unfold logL
      rw [List.map_map] <;> rfl
def preBQ (K : PySem.W.Frag) : AS → Hp → List D → List Addr → (Gh → As) → (Gh → D) → Prop := fun M H ds Sx C d => ∃ (b a q t e u : Addr) (es : Log) (clk : Int) (tab : Tab), ds = [.ref b] ∧ (boO K b a q es e u).p H ∧ QuR K H q a t clk tab ∧ Sx = [] ∧ C = (fun g => (quO K (g 0) a (g 1) clk).and (tabA K (g 1) (tabD tab))) ∧ d = fun g => .ref (g 0)
theorem sc_BQ : FnScope ["self"] ["self"] (defScope s_Book_queue) := ⟨rfl, rfl, rfl, by decide +kernel, rfl, by decide +kernel, by decide +kernel⟩
theorem h_Book_queue (T : Txt K mg) : Has P w K mg base 4 (atM "Book" "queue" K) ["self"] (spWG K (preBQ K)) := by
  obtain ⟨fd, F⟩ := f_Book_queue T
  refine ⟨fd, okWG F sc_BQ (fun M H ds Sx C d h => ?_) fun cdv A outer s H E M ds Sx C d hr tr h => ?_, F.bindsN fun _ _ _ _ _ _ us hl => match us, hl with | [_], _ => rfl, F.kp⟩
  · obtain ⟨_, _, _, _, _, _, _, _, _, rfl, _⟩ := h
    rfl
  · obtain ⟨b, a, q, t, e, u, es, clk, tab, rfl, hb, hq, rfl, rfl, rfl⟩ := h
    exact ⟨As.same H, .all fun g => .rt ((As.same H).and ((quO K (g 0) a (g 1) clk).and (tabA K (g 1) (tabD tab)))) (.ref (g 0)), Same.refl H, fun g n H' c => ⟨g, n, .of_same c.1, c.2, rfl⟩, ss_one (s_retG (g_meth0 (Gg := fun g => (As.same H).and ((quO K (g 0) a (g 1) clk).and (tabA K (g 1) (tabD tab)))) (cl_Queue T) (me_Queue_copied T) (h_Queue_copied T) hr (e_getF (cl_Book T) (na_Book_inner T) (e_var 0) (fun H' e0 => (boO K b a q es e u).mono e0 hb) rfl) (fun H' e0 => qu_nolk (hq.same e0).1)
      (spWG_ok (fun H1 e0 => ⟨q, a, t, clk, tab, rfl, hq.same e0, rfl, rfl, rfl⟩) fun g H1 H' nw e0 m k => ⟨e0.trans m.same, k⟩)))⟩
/-! ### queue_at -/
noncomputable def atM1 (S : Cfg) (now : Int) (s : QSt) (p : Int × List Deed) : QSt := if p.1 ≤ now then runE S s p else s
noncomputable def queueAtM (S : Cfg) (es : Log) (now : Int) : Tab := doT S now (es.foldl (fun s p => atM1 S now s p) (([] : Tab), (0 : Int))).1 []
/-- every entry that counts may be done in turn -/
def AtOk (S : Cfg) (now : Int) : QSt → Log → Prop
  | _, [] => True
  | s, p :: es => (p.1 ≤ now → EntOk S s p) ∧ AtOk S now (atM1 S now s p) es
def preQA (K : PySem.W.Frag) : AS → Hp → List D → List Addr → (Gh → As) → (Gh → D) → Prop := fun M H ds Sx C d => ∃ (b a q e u : Addr) (S : Cfg) (es : Log) (now : Int), ds = [.ref b, .int now] ∧ (boO K b a q es e u).p H ∧ (∃ dx t', H a = some (.ins (atG "Setting" K) dx [("texts", .ref t')]) ∧ H t' = some (.dK (kvsS S))) ∧ SOk S ∧
  es.length ≤ 1000 ∧ 0 ≤ now ∧ AtOk S now ([], 0) es ∧ Sx = [] ∧ C = (fun g => (quO K (g 0) a (g 1) now).and (tabA K (g 1) (tabD (queueAtM S es now)))) ∧ d = fun g => .ref (g 0)
theorem sc_QA : FnScope ["self", "now", "found", "time", "deeds"] ["self", "now"] (defScope s_Book_queue_at) := ⟨rfl, rfl, rfl, by decide +kernel, rfl, by decide +kernel, by decide +kernel⟩
theorem foldl_snoc_take {α β : Type} {f : α → β → α} {bs : List β} {i : Nat} {b : β} (h : bs[i]? = some b) (s : α) : (bs.take (i + 1)).foldl f s = f ((bs.take i).foldl f s) b := by
  have e : bs.take (i + 1) = bs.take i ++ [b] := by rw [List.take_succ, h] <;> rfl
  rw [e, List.foldl_append] <;> rfl
theorem h_queue_at (T : Txt K mg) : Has P w K mg base 10 (atM "Book" "queue_at" K) ["self", "now"] (spWG K (preQA K)) := by
  obtain ⟨fd, F⟩ := f_Book_queue_at T
  refine ⟨fd, okWG F sc_QA (fun M H ds Sx C d h => ?_) fun cdv A outer s H E M ds Sx C d hr tr h => ?_, F.bindsN fun _ _ _ _ _ _ us hl => match us, hl with | [_, _], _ => rfl, F.kp⟩
  · obtain ⟨_, _, _, _, _, _, _, _, rfl, _⟩ := h
    rfl
  · obtain ⟨b, a, q, e, u, S, es, now, rfl, hb, hset, ok, hz, h0, hok, rfl, rfl, rfl⟩ := h
    have hb' : ∀ H', Same H H' → (boO K b a q es e u).p H' := fun H' e0 => (boO K b a q es e u).mono e0 hb
    refine ⟨As.same H, .all fun g1 => .all fun g3 => .rt ((As.same H).and ((quO K (g1 0) a (g3 0) now).and (tabA K (g3 0) (tabD (queueAtM S es now))))) (.ref (g1 0)), Same.refl H, fun g1 n1 g2 n2 H' c => ⟨gh11 g1 g2, fun i => by
      unfold gh11
      split
      · exact n1 0
      · exact n2 0, .of_same c.1, c.2, rfl⟩, ?_⟩
    refine ss_consGo id (s_setG 2 sc_QA.nd (g_make H (B := As.same H) (Gi := fun o g' => (As.same H).and (((quO K o a (g' 0) 0).and (tabA K (g' 0) [])).and (As.pure (H o = none ∧ H (g' 0) = none)))) (mk_Queue T) (h_Queue_init T) (hr.mono (by decide)) (g_Queue T) (a_one (e_getF (cl_Book T) (na_Book_by T) (e_var 0) hb' rfl)) (fun H' x e0 hx => (Mv.of_same e0 : Mv [] H H').free hx) fun o ho => spWG_ok (fun H1 c => ⟨o, a, rfl, c.2, rfl, rfl, rfl⟩) fun g' H1 H' n c m k => ⟨((Mv.of_same c.1 : Mv [] H H1).skip m ho).same, k, ho, (Mv.of_same c.1 : Mv [] H H1).free (n 0)⟩)) fun g1 => ?_
    have doit : ∀ (M' : AS) (s : QSt) (p : Int × List Deed) (g : Gh), TabOk s.1 → EntOk S s p → SpOkG K M' (spWG K (preDo K)) ((As.same H).and (((quO K (g1 0) a (g 0) s.2).and (tabA K (g 0) (tabD s.1))).and (As.pure (H (g1 0) = none ∧ H (g 0) = none)))) [.ref (g1 0), .int p.1, .lst (p.2.map deedD)] (fun g' => (As.same H).and (((quO K (g1 0) a (g' 0) p.1).and (tabA K (g' 0) (tabD (doT S p.1 s.1 p.2)))).and (As.pure (H (g1 0) = none ∧ H (g' 0) = none)))) (fun _ => .lst (doR S p.1 s.1 p.2)) := fun M' s p g tok hp =>
      spWG_ok (fun H1 c => ⟨g1 0, a, g 0, S, s.2, p.1, s.1, p.2, rfl, ⟨c.2.1.1, c.2.1.2, set_none hset c.2.2.2 c.1, ok, tok⟩, hp.1, hp.2.1, hp.2.2, rfl, rfl, rfl⟩) fun g' H1 H' nw c m k => ⟨((Mv.of_same c.1 : Mv [] H H1).skip m c.2.2.1).same, k, c.2.2.1, (Mv.of_same c.1 : Mv [] H H1).free (nw 0)⟩
    -- the state of the turns
    have inv : ∀ i, i ≤ es.length → TabOk ((es.take i).foldl (fun s p => atM1 S now s p) (([] : Tab), (0 : Int))).1 ∧ AtOk S now ((es.take i).foldl (fun s p => atM1 S now s p) (([] : Tab), (0 : Int))) (es.drop i) ∧ ((es.take i).foldl (fun s p => atM1 S now s p) (([] : Tab), (0 : Int))).2 ≤ now := by
      intro i
      induction i with
      | zero => intro _; exact ⟨TabOk.nil, hok, h0⟩
      | succ i ih =>
        intro hi
        have hlt : i < es.length := by omega
        have eb : es[i]? = some es[i] := List.getElem?_eq_getElem hlt
        obtain ⟨k1, k2, k3⟩ := ih (by omega)
        rw [List.drop_eq_getElem_cons hlt] at k2
        rw [foldl_snoc_take eb]
        refine ⟨?_, k2.2, ?_⟩
        · unfold atM1
          by_cases z : es[i].1 ≤ now
          · rw [if_pos z]
            exact doT_ok k1 (k2.1 z).2.1
          · rw [if_neg z]
            exact k1
        · unfold atM1
          by_cases z : es[i].1 ≤ now
          · rw [if_pos z]
            exact z
          · rw [if_neg z]
            exact k3
    refine ss_forG (fun p s => atM1 S now s p) entryD (fun s gg => (As.same H).and (((quO K (g1 0) a (gg 0) s.2).and (tabA K (gg 0) (tabD s.1))).and (As.pure (H (g1 0) = none ∧ H (gg 0) = none)))) (fun i s => s = (es.take i).foldl (fun s p => atM1 S now s p) (([] : Tab), (0 : Int))) es (([] : Tab), (0 : Int)) (fun i => g1 (i + 1)) PassesOwn.never rfl
      (i_tup (e_getF (cl_Book T) (na_Book_entries T) (e_var 0) (fun H' c => hb' H' c.1) rfl)) (fun _ _ _ _ => trivial) rfl (pg_tup rfl (pgs_cons (pg_name (i := 3) sc_QA.nd rfl (Or.inl rfl)) (pgs_cons (pg_name (i := 4) sc_QA.nd rfl (Or.inl rfl)) pgs_nil))) (tg_pair 3 4) (fun i p s gg hp hP => ?turn) fun gg => ?rest
    case turn =>
      have hi : i < es.length := (List.getElem?_eq_some_iff.mp hp).1
      obtain ⟨k1, k2, k3⟩ := inv i (by omega)
      rw [← hP] at k1 k2 k3
      have ed : es.drop i = p :: es.drop (i + 1) := by rw [List.drop_eq_getElem_cons hi, (List.getElem?_eq_some_iff.mp hp).2]
      rw [ed] at k2
      have hn : atM1 S now s p = ((es.take (i + 1)).foldl (fun s p => atM1 S now s p) (([] : Tab), (0 : Int))) := by rw [foldl_snoc_take hp, ← hP]
      by_cases z : p.1 ≤ now
      · refine ⟨_, .all fun g' => .nx ((As.same H).and (((quO K (g1 0) a (g' 0) p.1).and (tabA K (g' 0) (tabD (doT S p.1 s.1 p.2)))).and (As.pure (H (g1 0) = none ∧ H (g' 0) = none)))) _, rfl, hn, fun g' => ⟨⟨[3, 4], rfl⟩, fun H' c => ⟨g', ?_⟩⟩, ss_one (s_ifT (t_is (t_le (e_var 3) (e_var 1)) (decide_eq_true z)) (ss_one (s_exprG (g_meth (cl_Queue T) (me_Queue_do T) (h_Queue_do T) hr (e_var 2) (fun H' c => qu_nolk c.2.1.1) (a_cons (e_var 3) (a_one (e_listT (n_list T) (e_var 4)))) (doit _ s p gg k1 (k2.1 z))))))⟩
        unfold atM1
        rw [if_pos z]
        exact c
      · refine ⟨_, .nx ((As.same H).and (((quO K (g1 0) a (gg 0) s.2).and (tabA K (gg 0) (tabD s.1))).and (As.pure (H (g1 0) = none ∧ H (gg 0) = none)))) _, rfl, hn, ⟨⟨[3, 4], rfl⟩, fun H' c => ⟨gg, ?_⟩⟩, ss_one (s_ifF (t_is (t_le (e_var 3) (e_var 1)) (decide_eq_false z)))⟩
        unfold atM1
        rw [if_neg z]
        exact c
    case rest =>
      obtain ⟨k1, k2, k3⟩ := inv es.length (Nat.le_refl _)
      rw [List.take_length] at k1 k3
      refine ss_consGo id (s_exprG (g_meth (cl_Queue T) (me_Queue_do T) (h_Queue_do T) hr (e_var 2) (fun H' c => qu_nolk c.2.1.1) (a_cons (e_var 1) (a_one (e_lst a_nil))) (doit M ((es.foldl (fun s p => atM1 S now s p) (([] : Tab), (0 : Int)))) (now, []) gg k1 ⟨k3, trivial, Nat.zero_le _⟩))) fun g3 => ss_toR' (ss_one (s_ret (e_var 2))) fun H' c => ⟨c.1, c.2.1⟩
end
end RQ
set_option Elab.async false
set_option linter.all false
set_option maxRecDepth 100000
set_option maxHeartbeats 4000000
namespace RQ
open PySem PySem.Spec PyProof.Rows L2 Dx
section
variable {P : Program} {w : World} {K : PySem.W.Frag} {mg : Str → Option Value} {base : Heap}
theorem okEq {x qual : Str} {params : Arguments} {body : List Stmt} {scope : Scope} {f : Addr} {fd : FuncData} {N : List Str} {k : Nat} {R : Addr → Addr → Hp → Prop} (F : FunD K x qual params body scope [] [] f fd) (Sc : FnScope N ["self", "other"] scope)
    (hbody : ∀ (cdv : Value) (A : Around) (outer : List Env) (s : Shared) (H : Hp) (E : XK) (a b : Addr), Room k (A.deeper (envOfC qual scope s.heap.objs.size f cdv)) → R a b H → PSs (cxOf CX0 P w K mg base N qual scope f cdv A outer s H E).nox body (tO K AS.no (As.same H) (startD N [.ref a, .ref b]) (.rt (As.same H) (.bl true)))) : FnOk P w K mg base CX0 (k + 1) f fd ["self", "other"] (spEq R) := by
  refine F.ok Sc (fun vs H Q E h => ?_) fun cdv A outer s H vs Q E hr h => ?_
  · obtain ⟨a, b, rfl, _⟩ := h
    rfl
  · obtain ⟨a, b, rfl, hR, q⟩ := h
    refine ⟨_, (hbody cdv A outer s H E a b hr hR).nox, ⟨Same.refl H, fun x hx => hx.elim, .start (.cons (.ref a) (.cons (.ref b) .nil))⟩, fun v H' k b r => ?_⟩
    rw [r.bl_inv]
    exact q H' b
/-! ### Setting.__eq__ -/
theorem valV_nodup : ∀ {S : Cfg}, (S.map (·.1)).Nodup → ∀ p ∈ kvsS S, valV (kvsS S) p.1 = some p.2 ∧ flatB p.2 = true
  | [], _, p, h => by cases h
  | (k0, v0) :: S, nd, p, h => by
    rw [List.map_cons, List.nodup_cons] at nd
    rcases List.mem_cons.mp h with e | h
    · subst e
      exact ⟨valV_pos rfl, rfl⟩
    · obtain ⟨h1, h2⟩ := valV_nodup nd.2 p h
      refine ⟨?_, h2⟩
      show valV ((Sum.inr k0, V.str v0) :: kvsS S) p.1 = some p.2
      rw [valV_neg (fun z => ?_)]
      · exact h1
      · obtain ⟨e, he, rfl⟩ := List.mem_map.mp h
        have e2 : k0 = e.1 := Sum.inr.inj z
        exact nd.1 (List.mem_map.mpr ⟨e, he, e2.symm⟩)
def RSet (K : PySem.W.Frag) : Addr → Addr → Hp → Prop := fun a b H => ∃ S, a = b ∧ SetAt K H a S ∧ (S.map (·.1)).Nodup
theorem sc_SE : FnScope ["self", "other"] ["self", "other"] (defScope s_Setting_eq) := ⟨rfl, rfl, rfl, by decide +kernel, rfl, by decide +kernel, by decide +kernel⟩
theorem h_Setting_eq (T : Txt K mg) : Has P w K mg base 1 (atM "Setting" "__eq__" K) ["self", "other"] (spEq (RSet K)) := by
  obtain ⟨fd, F⟩ := f_Setting_eq T
  refine ⟨fd, okEq F sc_SE fun cdv A outer s H E a b hr hR => ?_, F.bindsN fun _ _ _ _ _ _ us hl => match us, hl with | [_, _], _ => rfl, F.kp⟩
  obtain ⟨S, rfl, hS, nd⟩ := hR
  obtain ⟨dx, t, h1, h2⟩ := hS
  have fld : ∀ H', Same H H' → ∃ Cl dx fs v, H' a = some (.ins Cl dx fs) ∧ Cls K Cl ∧ NoAttr K Cl "texts" ∧ fs.lookup ("texts" : Str) = some v ∧ Rp K AS.no H' v (.ref t) := fun H' e => ⟨_, dx, _, _, e _ _ h1, cl_Setting T, na_Setting_texts T, by rfl, .ref t⟩
  refine ss_one (s_ret (e_and2 (k := true) (j := true) (e_isiOwn (B := As.same H) (n_isinstance T) (e_var 1) (g_Setting T) (fun H' e => ty_Setting T (e _ _ h1))) fun _ => e_cmp (op_eq_dictA hr.units0) (e_fld (e_var 0) fld) (e_fld (e_var 1) fld) fun H' v w c tr r1 r2 Q q => ?_))
  cases r1
  cases r2
  exact ⟨t, t, _, _, rfl, rfl, c _ _ h2, c _ _ h2, rfl, valV_nodup nd, q _ H' (Same.refl H') (.bl true)⟩
/-! ### Book.__eq__ -/
def RBook (K : PySem.W.Frag) : Addr → Addr → Hp → Prop := fun b1 b2 H => ∃ (a q1 q2 e1 e2 u1 u2 : Addr) (S : Cfg) (es : Log), (boO K b1 a q1 es e1 u1).p H ∧ (boO K b2 a q2 es e2 u2).p H ∧ SetAt K H a S ∧ (S.map (·.1)).Nodup ∧ SeqAt.shaped (toPy (logD es)) = true
theorem sc_BE : FnScope ["self", "other"] ["self", "other"] (defScope s_Book_eq) := ⟨rfl, rfl, rfl, by decide +kernel, rfl, by decide +kernel, by decide +kernel⟩
theorem deed_plain (d : Deed) : plainD (deedD d) = true := by
  cases d with
  | put n key weight due origin => cases origin <;> rfl
  | _ => rfl
theorem deeds_plain : ∀ ds : List Deed, plainL (ds.map deedD) = true
  | [] => rfl
  | d :: ds => by
    show (plainD (deedD d) && plainL (ds.map deedD)) = true
    rw [deed_plain, deeds_plain ds] <;> rfl
theorem entries_plain : ∀ es : Log, plainL (es.map entryD) = true
  | [] => rfl
  | e :: es => by
    show ((true && (plainL (e.2.map deedD) && true)) && plainL (es.map entryD)) = true
    rw [deeds_plain, entries_plain es] <;> rfl
theorem h_Book_eq (T : Txt K mg) : Has P w K mg base 2 (atM "Book" "__eq__" K) ["self", "other"] (spEq (RBook K)) := by
  obtain ⟨fd, F⟩ := f_Book_eq T
  refine ⟨fd, okEq F sc_BE fun cdv A outer s H E b1 b2 hr hR => ?_, F.bindsN fun _ _ _ _ _ _ us hl => match us, hl with | [_, _], _ => rfl, F.kp⟩
  obtain ⟨a, q1, q2, e1, e2, u1, u2, S, es, hb1, hb2, hS, nd, sh⟩ := hR
  obtain ⟨fdS, FS, hbS, _⟩ := h_Setting_eq (P := P) (w := w) (base := base) T
  have k1 : ∀ H', Same H H' → (boO K b1 a q1 es e1 u1).p H' := fun H' e => (boO K b1 a q1 es e1 u1).mono e hb1
  have k2 : ∀ H', Same H H' → (boO K b2 a q2 es e2 u2).p H' := fun H' e => (boO K b2 a q2 es e2 u2).mono e hb2
  refine ss_one (s_ret (e_and (B := As.same H) (k := true) (e_isiOwn (B := As.same H) (n_isinstance T) (e_var 1) (g_Book T) (fun H' e => let ⟨dx, fs, h1, _⟩ := k2 H' e; ty_Book T h1)) (fun _ => e_and (B := As.same H) (k := true) (e_cmp (op_eqG (rcG_ins FS (eq_Setting T).1 (eq_Setting T).2 hbS pass0) hr) (e_getF (cl_Book T) (na_Book_by T) (e_var 0) k1 rfl) (e_getF (cl_Book T) (na_Book_by T) (e_var 1) k2 rfl) fun H' v w c tr r1 r2 Q q => ?_) (fun _ => e_one (e_eqD hr.units (e_getF (cl_Book T) (na_Book_entries T) (e_var 0) k1 rfl) (e_getF (cl_Book T) (na_Book_entries T) (e_var 1) k2 rfl) (entries_plain es) (entries_plain es) sh sh (SeqAt.eqv_refl _ (SeqAt.canLay_of_shaped sh)))) fun h => by cases h) fun h => by cases h))
  cases r1
  cases r2
  obtain ⟨dx, t, h1, h2⟩ := hS
  exact ⟨⟨a, a, dx, dx, _, _, rfl, rfl, c _ _ h1, c _ _ h1, S, rfl, ⟨dx, t, c _ _ h1, c _ _ h2⟩, nd⟩, fun H2 e => q _ H2 e (.bl true)⟩
end
end RQ
set_option Elab.async false
set_option linter.all false
set_option maxRecDepth 100000
set_option maxHeartbeats 4000000
namespace RQ
open PySem PySem.Spec PyProof.Rows L2 Dx
section
variable {P : Program} {w : World} {K : PySem.W.Frag} {mg : Str → Option Value} {base : Heap}
/-! ### back -/
def preBack (K : PySem.W.Frag) : AS → Hp → List D → List Addr → As → D → Prop := fun M H ds Sx C d => ∃ (b a q e u q' : Addr) (es es' : Log) (n : Nat), ds = [.ref b] ∧ (boO K b a q es e u).p H ∧ (earlA K e (n + 1) (some (.tup [logD es', .ref q']))).p H ∧ (lstA K u []).p H ∧ M.c e ∧ M.c u ∧ e ≠ u ∧ Sx = [b, e, u] ∧
  C = boO K b a q' es' e u ∧ d = .non
theorem sc_back : FnScope ["self"] ["self"] (defScope s_Book_back) := ⟨rfl, rfl, rfl, by decide +kernel, rfl, by decide +kernel, by decide +kernel⟩
theorem h_back (T : Txt K mg) : Has P w K mg base 1 (atM "Book" "back" K) ["self"] (spW K (preBack K)) := by
  obtain ⟨fd, F⟩ := f_Book_back T
  refine ⟨fd, okW F sc_back (fun M H ds Sx C d h => ?_) fun cdv A outer s H E M ds Sx C d hr tr h => ?_, F.bindsN fun _ _ _ _ _ _ us hl => match us, hl with | [_], _ => rfl, F.kp⟩
  · obtain ⟨_, _, _, _, _, _, _, _, _, rfl, _⟩ := h
    rfl
  · obtain ⟨b, a, q, e, u, q', es, es', n, rfl, hb, he, hu, me, mu, hne, rfl, rfl, rfl⟩ := h
    have hbu : ∀ {H' : Hp}, ((boO K b a q es e u).and ((earlA K e (n + 1) (some (.tup [logD es', .ref q']))).and (As.pure True))).p H' → e ≠ b := fun c => ins_earl_ne c.1 c.2.1
    refine ⟨(As.mv [b, e, u] H).and ((boO K b a q es e u).and ((earlA K e (n + 1) (some (.tup [logD es', .ref q']))).and (earlA K u 0 none))), .nx ((As.mv [b, e, u] H).and (boO K b a q' es' e u)) (startD ["self"] [.ref b]), ⟨.refl H, hb, he, [], hu, rfl, fun d z => by cases z⟩, fun H' c => ⟨c.1, c.2, rfl⟩, ?_⟩
    refine ss_cons (s_ifF (t_cmp (op_eqLen hr.units0) (e_getF (cl_Book T) (na_Book_earlier T) (e_var 0) (fun H' c => c.2.1) rfl) (e_lst a_nil) fun H' v w c tr r1 r2 Q q => ?_))
      (ss_cons (s_eapp (C := (As.mv [b, e, u] H).and ((boO K b a q es e u).and ((earlA K e (n + 1) (some (.tup [logD es', .ref q']))).and (earlA K u 0 none)))) (G := (As.mv [b, e, u] H).and ((boO K b a q es e u).and (earlA K e (n + 1) (some (.tup [logD es', .ref q'])))))
          (e_getF (cl_Book T) (na_Book_undone T) (e_var 0) (fun H' c => c.2.1) rfl) (e_tup (a_cons (e_getF (cl_Book T) (na_Book_entries T) (e_var 0) (fun H' c => c.2.1) rfl) (a_one (e_getF (cl_Book T) (na_Book_inner T) (e_var 0) (fun H' c => c.2.1) rfl)))) mu (fun H' c => c.2.2.2) (fun H' c => c.2.2.2) (by show (flatD (logD es) && (true && true)) = true; rw [logD_flat] <;> rfl) (by decide)
          (fun H' v c i f => ⟨mv_put c.1 (by simp) f, (boO K b a q es e u).fr (f.less fun x (l : x = b) z => ins_earl_ne c.2.1 c.2.2.2 (z.symm.trans l)) c.2.1, (earlA K e (n + 1) _).fr (f.less fun x (l : x = e) z => hne (l.symm.trans z)) c.2.2.1⟩))
      (ss_one (s_put2 (q := b) (es := [("by", .ref a), ("inner", .ref q), ("entries", logD es), ("earlier", .ref e), ("undone", .ref u)]) (B := (As.mv [b, e, u] H).and (boO K b a q es e u)) (d1 := logD es') (d2 := .ref q') (cl_Book T) (na_Book_entries T) (na_Book_inner T) rfl
        (e_pop (n := n) (B := (As.mv [b, e, u] H).and ((boO K b a q es e u).and (earlA K e (n + 1) (some (.tup [logD es', .ref q']))))) (e_getF (cl_Book T) (na_Book_earlier T) (e_var 0) (fun H' c => c.2.1) rfl) me (fun H' c => c.2.2) (fun H' v c i f => ⟨mv_put c.1 (by simp) f, (boO K b a q es e u).fr (f.less fun x (l : x = b) z => ins_earl_ne c.2.1 c.2.2 (z.symm.trans l)) c.2.1⟩))
        (fun A => e_var 0) (fun A => e_var 0) (fun H' c => c.2) (logD_flat es') rfl (by show 5 < 900; decide) (fun H' v c i f => ⟨mv_put c.1 (by simp) f, i⟩))))
    cases r1
    obtain ⟨p, xs, rfl, h1, m1, l1⟩ := r2.lst_inv
    cases l1
    obtain ⟨ds, ⟨f, ys, e1, l2⟩, hn, _⟩ := c.2.2.1
    exact ⟨e, p, ys, [], rfl, rfl, e1, h1, by rw [l2.length, hn]; exact Nat.succ_ne_zero n, q _ H' (Same.refl H') (.bl false)⟩
end
end RQ
set_option Elab.async false
set_option linter.all false
set_option maxRecDepth 100000
set_option maxHeartbeats 4000000
namespace Dx
open PySem PySem.Spec PyProof.Rows L2
open PySem.AutoSeq1 (wpAny_loadPart')
/-! ### enumerate(a tuple) -/
theorem meets_enumerate_newT (l : Addr) (items : Array Value) (n : Nat) (dct : Option Addr) (sl : Array (Option Value)) :
    Meets (Builtin.«enumerate.__new__» ⟨[.type "enumerate", .ref l], []⟩) (fun _ R s => s.heap.get? l = some { cls := .type "tuple", dict := dct, data := .seq items n, slots := sl } ∧
      R (.ok (.ret (.ref (s.heap.push { cls := .type "tuple_iterator", data := .fields #[.ref l, .int 0 0] }).objs.size)))
        { s with heap := (s.heap.push { cls := .type "tuple_iterator", data := .fields #[.ref l, .int 0 0] }).push { cls := .type "enumerate", data := .fields #[.none, .bool false, .ref s.heap.objs.size, rawInt 0, .none, .none] } }) :=
  .of_wp fun prog w A R s h => by
    obtain ⟨hp, g, d, tk, os⟩ := s; obtain ⟨hl, h⟩ := h
    have hsub := sub_enumerate
    have hL : IsTup (Shared.heap ⟨hp, g, d, tk, os⟩) l items := ⟨_, hl, rfl, n, rfl⟩
    wp_walk using wpAny_loadPart' hl
    refine wpAny_stack_any fun st => wpAny_pure ?_
    split
    · rename_i c _ _ _ _ _
      cases (c == Value.type "enumerate")
      · wp_walk using wpAny_loadPart' hl, iter_tuple hL
        exact ⟨_, rfl, h⟩
      · wp_walk using wpAny_loadPart' hl, iter_tuple hL
        exact ⟨_, rfl, h⟩
    · wp_walk using wpAny_loadPart' hl, iter_tuple hL
      exact ⟨_, rfl, h⟩
section
variable {prog : Program} {w : World} {A : Around} {E : Value → Shared → Prop} {s : Shared}
theorem call_enumerate_tuple {l : Addr} {items : Array Value} {Q : Value → Shared → Prop} (hL : IsTup s.heap l items)
    (h : ∀ h', IsEnum h' (s.heap.objs.size + 1) s.heap.objs.size 0 .none → h'.IsTupleIter s.heap.objs.size l 0 → h'.objs.size = s.heap.objs.size + 2 →
      (∀ b o, s.heap.get? b = some o → h'.get? b = some o) → Q (.ref (s.heap.objs.size + 1)) { s with heap := h' }) :
    wpAny (model prog w) A (call (.type "enumerate") [.ref l]) Q E s := by
  obtain ⟨⟨c, dct, dt, sl⟩, hl, hc, n, hd⟩ := hL
  replace hc : c = .type "tuple" := hc
  replace hd : dt = .seq items n := hd
  subst hc hd
  refine callType_new F.called_enumerate (by decide) (F.typeCall_enumerate_1 _) (F.newCall_enumerate_1 _) (fun obj => F.args_object_init_2 obj _) F.entry_enumerate_new
    (meets_enumerate_newT l items n dct sl) ⟨hl, ?_⟩
  have hz : (s.heap.push { cls := .type "tuple_iterator", data := .fields #[.ref l, .int 0 0] }).objs.size = s.heap.objs.size + 1 := Heap.size_push ..
  show _ ∧ _
  rw [hz]
  have he : IsEnum ((s.heap.push { cls := .type "tuple_iterator", data := .fields #[.ref l, .int 0 0] }).push
      { cls := .type "enumerate", data := .fields #[.none, .bool false, .ref s.heap.objs.size, rawInt 0, .none, .none] }) (s.heap.objs.size + 1) s.heap.objs.size 0 .none := by
    have := Heap.get?_push_size (s.heap.push { cls := .type "tuple_iterator", data := .fields #[.ref l, .int 0 0] })
      (o := { cls := .type "enumerate", data := .fields #[.none, .bool false, .ref s.heap.objs.size, rawInt 0, .none, .none] }) rfl
    rw [hz] at this; exact this
  refine ⟨⟨_, he, rfl⟩, h _ he ⟨_, Heap.get?_push_of_some _ (Heap.get?_push_size _ rfl), rfl, rfl⟩ (by rw [Heap.size_push, hz]) fun b o x => Heap.get?_push_of_some _ (Heap.get?_push_of_some _ x)⟩
end
theorem pyNext_enum_endT {prog : Program} {w : World} {A : Around} {E : Value → Shared → Prop} {s : Shared} {e it l : Addr} {i : Nat} {items : Array Value} {old : Value} {Q : Option Value → Shared → Prop} (hh : A.handled = none)
    (he : IsEnum s.heap e it i old) (hit : s.heap.IsTupleIter it l i) (hl : s.heap.IsTuple l items) (hx : items[i]? = none)
    (hQ : ∀ h', Heap.ExtBut it s.heap h' → Q none { s with heap := h' }) : wpAny (model prog w) A (pyNext (.ref e)) Q E s := by
  have hT : s.TypeIs (.ref e) "enumerate" := ⟨_, he, rfl⟩
  unfold pyNext
  refine wpAny_bind (wpAny_attempt (wpAny_callSpecial?_slot (name := Str.ofString "__next__") hT PySem.F.slot_enumerate_next
    (wpAny_call_entry PySem.F.slot_enumerate_next hT PySem.F.entry_enumerate_next ?_ (PySem.F.args_enumerate_next_1 _))))
  show wpAny _ _ (field (.ref e) 2 >>= _) _ _ _
  refine wpAny_bind (wpAny_field he rfl (x := .ref it) rfl ?_)
  refine wpAny_bind (wpAny_nextOf_tuple_end (A := A.in1) hh hit hl hx fun h' x he' hx' => ?_)
  obtain ⟨o, ho, hc⟩ := hx'
  refine wpAny_bind (wpAny_isInstance (T := "StopIteration") (b := true) ⟨o, ho, hc⟩ isSubtype_stop ?_)
  exact wpAny_pure (hQ _ he')
def ItET (a : Addr) (xs : List V) : It :=
  ⟨fun i H => H a = some (.tup xs) ∧ i < xs.length, fun i H v H' => ∃ T x, xs[i]? = some x ∧ v = .ref T ∧ H T = none ∧ H' = upd H T (.tup [.int (i : Nat), x]), fun i H => H a = some (.tup xs) ∧ xs.length ≤ i⟩
theorem turn_enumT {P : Program} {w : World} {K : PySem.W.Frag} {elts : List Expr} {kk : Nat} {tpos : Pos} (a e it : Addr) (xs : List V) :
    Turn P w K (.Tuple elts kk tpos) (ItET a xs) [e, it] e (fun i h => (∃ old, IsEnum h e it ((i : Nat) : Int) old) ∧ h.IsTupleIter it a i ∧ e ≠ it) where
  mem := by simp
  obj := fun i h st b hb => by
    obtain ⟨⟨old, he⟩, ⟨o, ho, hc, hd⟩, _⟩ := st
    have e' : b = e ∨ b = it := by simpa using hb
    rcases e' with z | z
    · rw [z]; exact ⟨_, he, fun v q => nomatch q⟩
    · rw [z]; exact ⟨o, ho, fun v q => by rw [hd] at q; cases q⟩
  keep := fun i h h' st k => let ⟨⟨old, he⟩, hi, hne⟩ := st; ⟨⟨old, k e (by simp) _ he⟩, hi.at fun o q => k it (by simp) o q, hne⟩
  item := by
    intro X hP hw hK hc i pins s σ H E I hf st hg
    subst hP hw hK
    obtain ⟨⟨old, he⟩, hit, hne⟩ := st
    obtain ⟨hq, hlt⟩ := hg
    have nfe : e ≠ a := fun z => by
      have := (hf e (by simp)).1
      rw [z, hq] at this
      cases this
    have nfi : a ≠ it := fun z => by
      have := (hf it (by simp)).1
      rw [← z, hq] at this
      cases this
    obtain ⟨its, rv, p, hz⟩ := I.tuple (SqT.of hq)
    have hel : e < s.heap.objs.size := Heap.lt_size he
    have hil : it < s.heap.objs.size := by obtain ⟨_, q, _⟩ := hit; exact Heap.lt_size q
    have hlen := rv.length
    refine wpAny_pyNext_enum_itemD (Draws.tuple (A := X.A.in1) (I.ok.hd hc) it a nfi its.toArray) he ⟨hit, p⟩ (by simp; omega) hne (by simp [hne, nfe]) fun u h' tk hu ho hit' hT hsz hk => ?_
    obtain ⟨x, hx, ru⟩ : ∃ x, xs[i]? = some x ∧ RelV x u := by
      have hx : xs[i]? = some (xs[i]) := List.getElem?_eq_getElem hlt
      obtain ⟨u', hu', ru⟩ := rv.get hx
      have : its.toArray[i]? = some u' := by simpa using hu'
      rw [this] at hu
      cases hu
      exact ⟨_, hx, ru⟩
    refine ⟨_, rfl, wpAny_letOwnedTupleGo_enum (s := { s with heap := h', toks := tk + 1 }) ho fun h'' he' sb => ?_⟩
    have hT2 : h''.get? s.heap.objs.size = some { cls := .type "tuple", data := .seq #[.int i tk, u] } := (sb.2 _ (Nat.ne_of_gt hel)).trans hT
    have new : ObjOk X.prog X.w (upd H s.heap.objs.size (.tup [.int (i : Nat), x])) h'' s.heap.objs.size (.tup [.int (i : Nat), x]) :=
      ⟨by show 2 ≤ sizeLine; decide, [.int i tk, u], .cons ⟨_, rfl⟩ (.cons ru .nil), ⟨_, hT2, rfl, _, rfl⟩⟩
    have I1 : Inv X pins σ (upd H s.heap.objs.size (.tup [.int (i : Nat), x])) { s with heap := h'', toks := tk + 1 } :=
      I.turnedNew (ch := [e, it]) (fun b ob hb q => (sb.2 b (fun z => hb (by simp [z]))).trans (hk b ob (fun z => hb (by simp [z])) (fun z => hb (by simp [z])) q)) hf (Nat.le_refl _) new
    refine ⟨.ref s.heap.objs.size, _, I1, rfl, ⟨_, x, hx, rfl, I.hok.fresh (Nat.le_refl _), rfl⟩, ⟨⟨u, ?_⟩, hit'.1.at fun o q => (sb.2 it (Ne.symm hne)).trans q, hne⟩, fun b hb => ?_⟩
    · have e1 : ((i + 1 : Nat) : Int) = (i : Int) + 1 := by omega
      rw [e1]; exact he'
    · have hb' : b < s.heap.objs.size := by
        have e' : b = e ∨ b = it := by simpa using hb
        rcases e' with z | z
        · rw [z]; exact hel
        · rw [z]; exact hil
      rw [upd_ne (Nat.ne_of_lt hb')]
      exact (hf b hb).1
  done := by
    intro X hP hw hK hc i pins s σ H E I hf st hg
    subst hP hw hK
    obtain ⟨⟨old, he⟩, hit, hne⟩ := st
    obtain ⟨hq, hx⟩ := hg
    have nfi : a ≠ it := fun z => by
      have := (hf it (by simp)).1
      rw [← z, hq] at this
      cases this
    obtain ⟨its, rv, p, hz⟩ := I.tuple (SqT.of hq)
    obtain ⟨f0, f1, f2, f3, f4, f5⟩ := hf it (by simp)
    have hl := rv.length
    exact pyNext_enum_endT (I.ok.hd hc) he hit p (by simp; omega) fun h' eb => ⟨rfl, I.turned (t' := s.toks) (fun b o hb q => eb b o hb q) f0 f1 f3 f4 f5⟩
  self := fun A i s Q E st h => let ⟨⟨_, he⟩, _⟩ := st; wpAny_pyIter_enum he h
def iEnumT (ta : TA) : TI := fun σ H R => ta σ H fun vs H1 => ∃ a xs, vs = [.ref a] ∧ H1 a = some (.tup xs) ∧ R (ItET a xs) H1
theorem pi_enumT {X : Cx} {e : Expr} {ta : TA} {p pos tpos : Pos} {elts : List Expr} {kk : Nat} (hg : Gl X "enumerate") (hm : X.mg "enumerate" = none) (ha : PA X [e] ta) (hs : starEach [e] X.env = [(false, eval e X.env)] := by rfl) :
    PI X (.Tuple elts kk tpos) (.Call (.Name "enumerate" p) [e] [] pos) (iEnumT ta) := by
  refine ⟨fun pins s σ H R I h => ?_⟩
  refine Call_ (ld_blt I hg hm boot_enumerate (PyProof.Rows.callWith_type1 (thn (ha.run pos pins s σ H _ I h) fun us s1 ⟨vs, H1, I1, r1, q1⟩ => ?_) hs rfl))
  obtain ⟨a, xs, ex, hq, q⟩ := q1
  subst ex
  cases r1 with
  | cons r rr =>
    cases rr
    cases r
    obtain ⟨its, rv, p', hz⟩ := I1.tuple (SqT.of hq)
    refine call_enumerate_tuple p' fun h' he hit hsz hk => wpAny_pyIter_enum he ?_
    have I2 : Inv X pins σ H1 { s1 with heap := h' } := I1.kept (t' := s1.toks) hk
    refine ⟨s1.heap.objs.size + 1, [s1.heap.objs.size + 1, s1.heap.objs.size], _, _, H1, rfl, I2, turn_enumT a (s1.heap.objs.size + 1) s1.heap.objs.size xs, ⟨⟨.none, he⟩, hit, Nat.succ_ne_self _⟩, fun b hb => ?_, q⟩
    have e' : b = s1.heap.objs.size + 1 ∨ b = s1.heap.objs.size := by simpa using hb
    have hle : s1.heap.objs.size ≤ b := by
      rcases e' with z | z
      · rw [z]; exact Nat.le_add_right _ _
      · rw [z]; exact Nat.le_refl _
    exact I1.fpOk hle (I1.hok.fresh hle)
theorem walk_enumT {a : Addr} {xs : List V} : Walk (ItET a xs) xs.length (fun H => H a = some (.tup xs)) (fun i H x H' => ∃ T y, xs[i]? = some y ∧ x = .ref T ∧ H T = none ∧ H' = upd H T (.tup [.int (i : Nat), y])) :=
  ⟨fun i _ hi q => ⟨q, hi⟩, fun _ q => ⟨q, Nat.le_refl _⟩, fun i H v H' _ q y => y⟩
section
variable {X : Cx} {M : AS} {A B : As} {δ : LS} {pos p : Pos} {e : Expr} {items : List D}
theorem i_enumT {elts : List Expr} {kk : Nat} {tpos : Pos} (hm : X.mg "enumerate" = none) (h : PE X e (tC X.K M A δ B (.tup items))) (hg : Gl X "enumerate" := by rfl) (hs0 : starEach (e :: []) X.env = (false, eval e X.env) :: starEach [] X.env := by rfl) (hs : starEach [e] X.env = [(false, eval e X.env)] := by rfl) :
    PIt X M (.Tuple elts kk tpos) (.Call (.Name "enumerate" p) [e] [] pos) A δ B (fun _ => True) (enumD 0 items) := ⟨_, pi_enumT hg hm (a_one h hs0) hs, fun σ H R s q => ⟨s, fun vs H1 k1 b1 r1 => by
  cases r1 with
  | cons r1 r2 =>
    cases r2
    obtain ⟨a, xs, rfl, h1, l1⟩ := r1.tup_inv'
    refine ⟨a, xs, rfl, h1, q (ItET a xs) xs.length _ _ H1 k1 b1 walk_enumT (by rw [enumD_len]; exact l1.length) fun M' hm => ⟨fun H2 k2 _ => k2.tup _ _ h1, fun i H2 x H3 k2 y hi => ?_⟩⟩
    obtain ⟨T, w, hw, rfl, hT, rfl⟩ := y
    obtain ⟨d, e3, r⟩ := ((l1.more hm).kp k2).getV hw
    refine ⟨Same.new hT, _, enumD_get e3, ?_⟩
    rw [Nat.zero_add]
    exact .tup upd_same (.cons (.int _) (.cons (r.kp (.new hT) d w) .nil))⟩⟩
end
end Dx
set_option Elab.async false
set_option linter.all false
set_option maxRecDepth 100000
set_option maxHeartbeats 4000000
namespace Dx
open PySem PySem.Spec PyProof.Rows L2
section
variable {X : Cx} {M : AS} {A B C G : As} {δ δ' : LS} {pos p p2 apos cpos epos : Pos} {x y z d : D} {a b e o tg iter : Expr} {items : List D} {st : Stmt} {rest sts body : List Stmt} {ou : Out}
theorem pi_anyR : PI X tg iter (fun σ H R => ∃ wi, PI X tg iter wi ∧ wi σ H R) := ⟨fun pins s σ H R I ⟨wi, h, q⟩ => h.run pins s σ H R I q⟩
/-- x, y = a new thing, []; a loop that appends to y; then y is data -/
theorem ss_accFor {α β : Type} {n m : Str} {px py pt lp p1 : Pos} {kt k2 pt2} (i j : Nat) (f : β → α → α × D) (enc : β → D) {Bg : Gh → As} {dg : Gh → D} (At : Gh → α → Gh → As) (P : Nat → α → Prop) {g0 : TG} {js : List Nat} {tf : D → LS → Option LS} (bs : List β) (s0 : α) (gg0 : Gh → Gh)
    (hc : X.calm = true) (hN : X.N.Nodup) (hi : X.N[i]? = some n) (hj : X.N[j]? = some m) (hij : i ≠ j) (hx : X.env.scope.names.lookup n = some .local) (hy : X.env.scope.names.lookup m = some .local) (hp : PassesOwn (model X.prog X.w) X.A X.env X.xe)
    (he : PE X a (tCG X.K M A δ Bg dg)) (hB : ∀ g H, (Bg g).p H → (At g s0 (gg0 g)).p H) (hP : P 0 s0) (hz : bs.length < sizeLine)
    {W : Hp → Prop} (hit : ∀ g q, PIt X (M.hide q) tg iter (At g s0 (gg0 g)) ((δ.set i (some (dg g))).set j (some (.ref q))) (At g s0 (gg0 g)) W (bs.map enc)) (hW : ∀ g s gg H, (At g s gg).p H → W H) (hg : PG X tg g0) (tgk : TgOk X.K g0 js tf)
    (hL : ∀ g s gg H c xs, (At g s gg).p H → H c = some (.lst xs) → (At g s gg).L c → A.L c)
    (hbody : ∀ t, PSs X [.Expr (.Call (.Attribute (.Name m p1) "append" apos) [e] [] cpos) epos] t → PSs X body t)
    (hm : ∀ (q : Addr) (δ' : LS) (A' : As), δ'[j]? = some (some (.ref q)) → PE X (.Name m p1) (tC X.K (M.hide q) A' δ' A' (.ref q)))
    (turn : ∀ g q k b s gg, bs[k]? = some b → P k s → ∃ δ', tf (enc b) ((δ.set i (some (dg g))).set j (some (.ref q))) = some δ' ∧ δ'[j]? = some (some (.ref q)) ∧ (∃ ws : List Nat, (δ.set i (some (dg g))).set j (some (.ref q)) = wipeL δ' ws) ∧ P (k + 1) (f b s).1 ∧
      PE X e (tCG X.K (M.hide q) (At g s gg) δ' (fun gg' => At g (f b s).1 gg') (fun _ => (f b s).2)))
    (hrest : ∀ g gg, PSs X rest (tO X.K M (At g (fins f bs s0) gg) ((δ.set i (some (dg g))).set j (some (.lst (outs f bs s0)))) ou))
    (hw : swappedStores [.Tuple [.Name n px, .Name m py] kt pt] (.Tuple [a, .List [] lp] k2 pt2) X.env = pure (some [n, m])) (ha : starEach (a :: [.List [] lp]) X.env = (false, eval a X.env) :: starEach [.List [] lp] X.env := by rfl) (hs : swapsWithSole [.Tuple [.Name n px, .Name m py] kt pt] (.Tuple [a, .List [] lp] k2 pt2) pos.line X.env = pure false := by rfl)
    (hsi : ∀ x, foldedSetIterable iter X.env x = pure x := by intro _; rfl) (hbase : attributeBase (.Name m p1) "append" X.env (eval (.Name m p1) X.env) = eval (.Name m p1) X.env := by rfl)
    (hfew : ((backTo cpos (starEach (e :: []) X.env)).all (fun x => !x.1) && (backToKw cpos (keywordEach [] X.env)).all (fun x => x.1.isSome) && decide ((e :: []).length + ([] : List Keyword).length + (if ([] : List Keyword).isEmpty then 0 else 1) < 30)) = true := by rfl)
    (hline : (apos.endLine == cpos.line) = true := by rfl) (hse : starEach (e :: []) X.env = (false, eval e X.env) :: starEach [] X.env := by rfl) (hplain : (backTo cpos (starEach [] X.env)).any (·.1) = false := by rfl)
    (hsw : swapsWith (.Call (.Attribute (.Name m p1) "append" apos) [e] [] cpos) none epos.line X.env = pure false := by rfl) :
    PSs X (.Assign [.Tuple [.Name n px, .Name m py] kt pt] (.Tuple [a, .List [] lp] k2 pt2) pos :: .For tg iter body [] p2 :: rest) (tO X.K M A δ ou) := by
  have anyE : ∀ e, PE X e (fun σ H Q => ∃ t, PE X e t ∧ t σ H Q) := fun e => ⟨fun pins s σ H Q I ⟨t, h, q⟩ => h.run pins s σ H Q I q⟩
  have hbd := hbody _ (pss_one (ps_expr (pe_bm PySem.F.plainAttrs_list PySem.F.slot_list_append PySem.F.type_list_append mt_append (anyE (.Name m p1)) (pa_cons (anyE e) pa_nil hse) hbase hfew hline hse hplain) hsw))
  refine pss_imp (pss_cons (ps_par hc hN hi hj hij hx hy (pa_cons he (pa_cons (pe_lst pa_nil) pa_nil) ha) hw hs) (pss_cons (ps_for hp hc pi_anyR hg hbd hsi) (pss_any (sts := rest)))) fun E σ H ⟨s, hq⟩ => ⟨s, fun g v H1 ng k1 b1 r1 => ?_⟩
  refine ⟨Nat.zero_le _, fun q hq1 => ⟨_, _, rfl, ?_⟩⟩
  have hqH : H q = none := k1.free hq1
  have nM : ¬ M.x q := fun z => s.tr q z hqH
  have nA : ¬ A.L q := fun z => A.trk s.a z hqH
  have kq : Kp M H (upd H1 q (.lst [])) := k1.trans (.new hq1)
  have mh : ∀ {H' : Hp}, H' q = none → ∀ c, (M.hide q).x c → M.x c ∨ H' c = none := fun h c z => z.elim .inl fun z => .inr (by rw [z]; exact h)
  have st1 : St0 X.K (M.hide q) (At g s0 (gg0 g)) ((δ.set i (some (dg g))).set j (some (.ref q))) ((σ.set i (some v)).set j (some (.ref q))) (upd H1 q (.lst [])) := by
    refine ⟨(At g s0 (gg0 g)).mono (Same.new hq1) (hB g H1 b1), fun c z => z.elim (fun z => kq.trk c (s.tr c z)) fun z => (by rw [z, upd_same]; exact fun y => (by cases y)), ?_⟩
    have r0 : RelS X.K (M.hide q) H1 (σ.set i (some v)) (δ.set i (some (dg g))) := ((s.s.kp k1).set i r1).more (mh hq1)
    exact (r0.kp (.new hq1)).set j (.ref q)
  obtain ⟨wi, hpi, hwi⟩ := (hit g q).ex
  refine ⟨wi, hpi, ?_⟩
  refine hwi _ _ _ st1 fun J nn G Y H2 k2 b2 w hn hGY => ?_
  obtain ⟨hG, hY⟩ := hGY (M.own q) fun c h => .inl h
  have lk : ∀ {H' H'' : Hp}, Kp M H' H'' → Kp (M.own q) H' H'' := fun k => k.less fun _ h => .inl h
  have hk_ : ∀ {H' H'' : Hp}, Kp (M.hide q) H' H'' → Kp (M.own q) H' H'' := fun k => k.less fun _ h => .inl h
  have fw : ∀ {H' : Hp}, Kp (M.own q) H H' → Kp M H H' := fun k => k.fewer (M := M) fun c (z : M.c c ∨ c = q) => z.elim Or.inl fun z => Or.inr (by rw [z]; exact hqH)
  have nq : ¬ (M.hide q).c q := fun z => nM (M.sub _ z)
  have e2 : H2 q = some (.lst []) := k2.lst _ _ upd_same nq
  have tr2 := tr_kp st1.tr k2
  have q1 : Out.ok X.K M H E ou := hq
  have hlen := outs_len f bs s0
  refine for_it w (fun k σ' H' => P k (fins f (bs.take k) s0) ∧ Kp (M.own q) H H' ∧ (∃ gg, (At g (fins f (bs.take k) s0) gg).p H') ∧ RelS X.K (M.hide q) H' σ' ((δ.set i (some (dg g))).set j (some (.ref q))) ∧ Tr (M.hide q) H' ∧ Kp (M.own q) H2 H' ∧
    ∃ acc, H' q = some (.lst acc) ∧ RpL X.K (M.hide q) H' acc ((outs f bs s0).take k)) ⟨hP, (lk kq).trans (hk_ k2), ⟨_, b2⟩, st1.s.kp k2, tr2, Kp.refl _, [], e2, .nil⟩ (fun k σ' H' _ ⟨_, _, ⟨gg, a3⟩, _, _, ko, _⟩ => hG H' ko (hW _ _ _ H' a3)) (fun k x σ2 H3 H4 hk2 pv y => ?_) fun σ2 H3 pv => ?_
  · obtain ⟨pp, k3, ⟨gg, a3⟩, s3, tr3, ko3, acc, e3, l3⟩ := pv
    obtain ⟨sm, d, ed, rd⟩ := hY k H3 x H4 ko3 y hk2
    rw [List.getElem?_map] at ed
    cases eb : bs[k]? with
    | none =>
      rw [eb] at ed
      cases ed
    | some b =>
      rw [eb] at ed
      cases ed
      obtain ⟨δ', ef, hd', ⟨ws, hws⟩, pp', he'⟩ := turn g q k b _ gg eb pp
      have hkb : k < bs.length := (List.getElem?_eq_some_iff.mp eb).1
      refine tgk (M.hide q) x _ _ δ' σ2 H4 _ ef (Rp.less (M := M.own q) (M' := M.hide q) (fun c (z : M.x c ∨ c = q) => (show M.x c ∨ c = q from z)) _ _ rd) (s3.kp (.of_same sm)) fun σ' s' _ => ?_
      have st4 : St0 X.K (M.hide q) (At g (fins f (bs.take k) s0) gg) δ' σ' H4 := ⟨(At _ _ gg).mono sm a3, tr_kp tr3 (.of_same sm : Kp (M.hide q) H3 H4), s'⟩
      have e4 := sm _ _ e3
      refine ⟨_, hm q δ' (At g (fins f (bs.take k) s0) gg) hd', st4, fun v5 H5 k5 b5 r5 => ?_⟩
      cases r5
      have e5 := k5.lst _ _ e4 nq
      refine ⟨.inl ⟨rfl, acc, SqL.of e5⟩, _, he', st4.kp k5 b5, fun gg' v6 H6 n6 k6 b6 r6 => ?_⟩
      have e6 := k6.lst _ _ e5 nq
      have l6 := ((l3.kp (.of_same sm)).kp k5).kp k6
      have hacc : acc.length = k := by
        rw [l3.length, List.length_take, hlen]
        omega
      have nLq : ¬ (At g (f b (fins f (bs.take k) s0)).1 gg').L q := fun z => nA (hL _ _ _ H6 q _ b6 e6 z)
      have ku : Kp (M.own q) H6 (upd H6 q (.lst (acc ++ [v6]))) := .upd e6 (fun _ z => by cases z) (.inl (.inr rfl))
      have ck : Kp (M.own q) H3 (upd H6 q (.lst (acc ++ [v6]))) := (((Kp.of_same sm).trans (hk_ k5)).trans (hk_ k6)).trans ku
      refine ⟨q, acc, v6, rfl, rfl, e6, by rw [hacc]; omega, ?_⟩
      have tk : (outs f bs s0).take (k + 1) = (outs f bs s0).take k ++ [(f b (fins f (bs.take k) s0)).2] := by rw [List.take_succ, outs_get f bs s0 k b eb] <;> rfl
      have xe : ∀ c, (M.own q).x c → (M.hide q).x c := fun c z => z
      have xe' : ∀ c, (M.hide q).x c → (M.own q).x c := fun c z => z
      rw [fins_succ eb, tk]
      refine ⟨pp', k3.trans ck, ⟨gg', (At _ _ gg').stab e6 nLq b6⟩, ?_, fun c z => ck.trk c (tr3 c z), ko3.trans ck, acc ++ [v6], upd_same, ?_⟩
      · have r7 : RelS X.K (M.own q) (upd H6 q (.lst (acc ++ [v6]))) σ' δ' := (((s'.kp k5).kp k6).less xe).kp ku
        rw [hws]
        exact (r7.less xe').wipeO ws
      · exact (((l6.append (RpL.one r6)).less xe _ _).kp ku _ _).less xe' _ _
  · obtain ⟨pp, k3, ⟨gg, a3⟩, s3, tr3, ko3, acc, e3, l3⟩ := pv
    rw [hn, List.length_map] at a3 l3
    rw [List.take_length] at a3
    have hfin : (outs f bs s0).take bs.length = outs f bs s0 := List.take_of_length_le (by rw [hlen]; exact Nat.le_refl _)
    rw [hfin] at l3
    have k3' := fw k3
    refine ⟨_, hrest g gg, ⟨a3, tr_kp s.tr k3', ⟨by have := s3.1; simp at this ⊢; exact this, fun c d hd => ?_⟩⟩, Out.ok_kp k3' q1⟩
    by_cases z : j = c
    · subst z
      have hlt : j < (δ.set i (some (dg g))).length := by
        have := (List.getElem?_eq_some_iff.mp hd).1
        rw [List.length_set] at this
        exact this
      obtain ⟨v', ev, rv⟩ := s3.2 j (.ref q) (by rw [List.getElem?_set_self hlt])
      cases rv
      rw [List.getElem?_set_self hlt] at hd
      cases hd
      exact ⟨_, ev, .lst e3 nM (l3.less (M' := M) fun c z => (show M.x c ∨ c = q from Or.inl z))⟩
    · rw [List.getElem?_set_ne z] at hd
      obtain ⟨v', ev, rv⟩ := s3.2 c d (by rw [List.getElem?_set_ne z]; exact hd)
      exact ⟨v', ev, rv.less (M' := M) (fun c z => (show M.x c ∨ c = q from Or.inl z)) _ _⟩
end
end Dx
set_option Elab.async false
set_option linter.all false
set_option maxRecDepth 100000
set_option maxHeartbeats 4000000
namespace RQ
open PySem PySem.Spec PyProof.Rows L2 Dx
def placeM (es : Log) (now : Int) : Nat := (es.filter fun p => decide (p.1 ≤ now)).length
def lateL (es : Log) (now : Int) (deeds : List Deed) : Log := es.take (placeM es now) ++ [(now, deeds)] ++ es.drop (placeM es now)
theorem place_le (es : Log) (now : Int) : placeM es now ≤ es.length := List.length_filter_le _ _
def fEnt (now : Int) : D → Bool
  | .tup [.int t, _] => decide (t ≤ now)
  | _ => false
theorem ent_len (es : Log) (now : Int) : (((es.map entryD).filter (fEnt now)).map id).length = placeM es now := by
  rw [List.length_map]
  unfold placeM
  induction es with
  | nil => rfl
  | cons p es ih =>
    rw [List.map_cons, List.filter_cons, List.filter_cons]
    show (if decide (p.1 ≤ now) = true then _ else _ : List D).length = _
    by_cases h : decide (p.1 ≤ now) = true
    · rw [if_pos h, if_pos h, List.length_cons, List.length_cons, ih]
    · rw [if_neg h, if_neg h, ih]
def idxL : Nat → Log → List (Nat × (Int × List Deed))
  | _, [] => []
  | i, p :: ps => (i, p) :: idxL (i + 1) ps
def encI (x : Nat × (Int × List Deed)) : D := .tup [.int (x.1 : Nat), entryD x.2]
theorem enum_idx : ∀ (i : Nat) (es : Log), enumD i (es.map entryD) = (idxL i es).map encI
  | _, [] => rfl
  | i, p :: ps => congrArg (encI (i, p) :: ·) (enum_idx (i + 1) ps)
noncomputable def lateF (S : Cfg) (x : Nat × (Int × List Deed)) (s : QSt) : QSt × D := (runE S s x.2, .lst (doR S x.2.1 s.1 x.2.2))
theorem idx_len : ∀ (i : Nat) (es : Log), (idxL i es).length = es.length
  | _, [] => rfl
  | i, p :: ps => congrArg (· + 1) (idx_len (i + 1) ps)
theorem idx_get : ∀ {i : Nat} {es : Log} {k : Nat} {x : Nat × (Int × List Deed)}, (idxL i es)[k]? = some x → x.1 = i + k ∧ es[k]? = some x.2
  | _, [], _, _, h => by simp [idxL] at h
  | i, p :: ps, 0, x, h => by
    simp [idxL] at h
    subst h
    exact ⟨rfl, rfl⟩
  | i, p :: ps, k + 1, x, h => by
    obtain ⟨h1, h2⟩ := idx_get (i := i + 1) (es := ps) (k := k) (by simpa [idxL] using h)
    exact ⟨by omega, by simpa using h2⟩
theorem idx_get' : ∀ {i : Nat} {es : Log} {k : Nat} {p : Int × List Deed}, es[k]? = some p → (idxL i es)[k]? = some (i + k, p)
  | _, [], _, _, h => by simp at h
  | i, p0 :: ps, 0, p, h => by
    simp at h
    subst h
    rfl
  | i, p0 :: ps, k + 1, p, h => by
    have := idx_get' (i := i + 1) (es := ps) (k := k) (p := p) (by simpa using h)
    show (idxL (i + 1) ps)[k]? = _
    rw [this]
    have e : i + 1 + k = i + (k + 1) := by omega
    rw [e]
theorem fins_idx (S : Cfg) : ∀ (i : Nat) (es : Log) (s : QSt), fins (lateF S) (idxL i es) s = runL S es s
  | _, [], _ => rfl
  | i, p :: ps, s => fins_idx S (i + 1) ps (runE S s p)
theorem idx_take (i : Nat) (es : Log) (k : Nat) : (idxL i es).take k = idxL i (es.take k) := by
  induction k generalizing i es with
  | zero => rfl
  | succ k ih =>
    cases es with
    | nil => rfl
    | cons p ps =>
      show (i, p) :: (idxL (i + 1) ps).take k = (i, p) :: idxL (i + 1) (ps.take k)
      rw [ih]
theorem runL_ok {S : Cfg} : ∀ {es : Log} {s : QSt}, TabOk s.1 → LogOk S s es → ∀ k, TabOk (runL S (es.take k) s).1 ∧ LogOk S (runL S (es.take k) s) (es.drop k)
  | [], s, h, _, k => by
    rw [List.take_nil, List.drop_nil]
    exact ⟨h, trivial⟩
  | p :: ps, s, h, l, 0 => ⟨h, l⟩
  | p :: ps, s, h, l, k + 1 => runL_ok (es := ps) (s := runE S s p) (doT_ok h l.1.2.1) l.2 k
theorem cut_drop {α : Type} (xs : List α) (n : Nat) (h : n ≤ xs.length) : Dx.cutD xs (some (n : Int)) none = xs.drop n := by
  unfold Dx.cutD
  rw [HT.sIx_none, HT.sIx_nat, Nat.min_eq_left h]
  exact List.take_of_length_le (by rw [List.length_drop]; exact Nat.le_refl _)
section
variable {P : Program} {w : World} {K : PySem.W.Frag} {mg : Str → Option Value} {base : Heap}
def preLate (K : PySem.W.Frag) : AS → Hp → List D → List Addr → (Gh → As) → (Gh → D) → Prop := fun M H ds Sx C d => ∃ (b a q e u : Addr) (S : Cfg) (es : Log) (now : Int) (deeds : List Deed) (n : Nat) (last : Option D), ds = [.ref b, .int now, .lst (deeds.map deedD)] ∧ (boO K b a q es e u).p H ∧ (earlA K e n last).p H ∧ (lstA K u []).p H ∧ M.c e ∧ M.c u ∧ e ≠ u ∧ n < 1000 ∧
  (∃ dx t', H a = some (.ins (atG "Setting" K) dx [("texts", .ref t')]) ∧ H t' = some (.dK (kvsS S))) ∧ SOk S ∧ es.length < 100 ∧ LogOk S ([], 0) (lateL es now deeds) ∧ Sx = [b, e, u] ∧
  C = (fun g => boA K b a (g 0) (g 1) e u (lateL es now deeds) (runL S (lateL es now deeds) ([], 0)).2 (runL S (lateL es now deeds) ([], 0)).1 (n + 1) (some (.tup [logD es, .ref q]))) ∧ d = fun _ => .lst (doR S now (runL S (es.take (placeM es now)) ([], 0)).1 deeds)
theorem sc_late : FnScope ["self", "now", "deeds", "place", "entries", "kept", "told", "index", "time", "some", "entry"] ["self", "now", "deeds"] (defScope s_Book_late) := ⟨rfl, rfl, rfl, by decide +kernel, rfl, by decide +kernel, by decide +kernel⟩
theorem logD_app (es fs : Log) : D.tup (es.map entryD ++ fs.map entryD) = logD (es ++ fs) := by unfold logD; rw [List.map_append]
theorem h_late (T : Txt K mg) : Has P w K mg base 10 (atM "Book" "late" K) ["self", "now", "deeds"] (spWG K (preLate K)) := by
  obtain ⟨fd, F⟩ := f_Book_late T
  refine ⟨fd, okWG F sc_late (fun M H ds Sx C d h => ?_) fun cdv A outer s H E M ds Sx C d hr tr h => ?_, F.bindsN fun _ _ _ _ _ _ us hl => match us, hl with | [_, _, _], _ => rfl, F.kp⟩
  · obtain ⟨_, _, _, _, _, _, _, _, _, _, _, rfl, _⟩ := h
    rfl
  · obtain ⟨b, a, q, e, u, S, es, now, deeds, n, last, rfl, hb0, hea, hun, me, mu, hne, hn, hset, ok, hes, hlog, rfl, rfl, rfl⟩ := h
    have hb : ∀ H', Same H H' → (boO K b a q es e u).p H' := fun H' e0 => (boO K b a q es e u).mono e0 hb0
    have trk : ∀ x, H x = none → x ≠ b ∧ x ≠ e ∧ x ≠ u := fun x hx => ⟨fun z => (boO K b a q es e u).trk hb0 rfl (z ▸ hx), fun z => (earlA K e n last).trk hea rfl (z ▸ hx), fun z => (lstA K u []).trk hun rfl (z ▸ hx)⟩
    have hpl := place_le es now
    have hLlen : (lateL es now deeds).length = es.length + 1 := by
      unfold lateL
      rw [List.length_append, List.length_append, List.length_take, List.length_drop, List.length_singleton]
      omega
    refine ⟨As.same H, .rx fun H' dd => ∃ g : Gh, (∀ i, H (g i) = none) ∧ Mv [b, e, u] H H' ∧ (boA K b a (g 0) (g 1) e u (lateL es now deeds) (runL S (lateL es now deeds) ([], 0)).2 (runL S (lateL es now deeds) ([], 0)).1 (n + 1) (some (.tup [logD es, .ref q]))).p H' ∧ dd = .lst (doR S now (runL S (es.take (placeM es now)) ([], 0)).1 deeds), Same.refl H, fun H' dd h => h, ?_⟩
    refine ss_cons (s_ifF (t_is (t_eqI (e_lenT (n_len T) (e_getF (cl_Book T) (na_Book_entries T) (e_var 0) hb rfl)) (e_constI (i_MOST_TRANSACTIONS T))) (by rw [List.length_map]; exact decide_eq_false (by omega))))
      (ss_cons (s_set 3 sc_late.nd (e_is (d' := .int (placeM es now : Nat)) (e_lenL (n_len T) (e_lcP (own := [("entry", 10)]) (g := gName 10) (js := [10]) (f := fOne 10) (items := es.map entryD) (fEnt now) id rfl sc_late.nd (blkOk_by (N := ["self", "now", "deeds", "place", "entries", "kept", "told", "index", "time", "some", "entry"]) (sc := defScope s_Book_late) (by decide +kernel)) (i_tup (e_getF (cl_Book T) (na_Book_entries T) (e_var 0) hb rfl)) (fun _ _ => trivial) (fun _ _ _ _ _ => pg_name (i := 10) sc_late.nd rfl (Or.inl rfl)) (tg_name 10) (fun _ h => h) (by rw [List.length_map]; exact Nat.lt_trans hes (by decide)) (fun M' _ _ d hd => ?tt))) (by rw [ent_len])))
      (ss_cons (s_set 4 sc_late.nd (e_is (d' := logD (lateL es now deeds)) (e_catT (e_catT (e_slT (e_getF (cl_Book T) (na_Book_entries T) (e_var 0) hb rfl) o_none (o_some (e_var 3))) (e_tup (a_one (e_tup (a_cons (e_var 1) (a_one (e_tupleL (n_tuple T) (e_var 2))))))) ?z1) (e_slT (e_getF (cl_Book T) (na_Book_entries T) (e_var 0) hb rfl) (o_some (e_var 3)) o_none) ?z2) ?ecat)) ?loop))
    case tt =>
      obtain ⟨p, hp, rfl⟩ := List.mem_map.mp hd
      exact ⟨_, rfl, fun _ _ _ _ _ => ts_one (t_is (t_le (e_ixT (e_var 10 (d := entryD p)) e_int (d := .int p.1) rfl) (e_var 1)) rfl), fun _ _ _ _ _ _ => e_var 10⟩
    case z1 =>
      have := cut_len (es.map entryD) none (some (placeM es now : Int))
      rw [List.length_map] at this
      exact Nat.le_trans (Nat.add_le_add_right (Nat.le_trans this (Nat.le_of_lt hes)) 1) (by decide)
    case z2 =>
      have h1 := cut_len (es.map entryD) none (some (placeM es now : Int))
      have h2 := cut_len (es.map entryD) (some (placeM es now : Int)) none
      rw [List.length_map] at h1 h2
      rw [List.length_append]
      exact Nat.le_trans (Nat.add_le_add (Nat.add_le_add_right (Nat.le_trans h1 (Nat.le_of_lt hes)) 1) (Nat.le_trans h2 (Nat.le_of_lt hes))) (by decide)
    case ecat =>
      rw [cut_take _ _ (by rw [List.length_map]; exact hpl), cut_drop _ _ (by rw [List.length_map]; exact hpl)]
      unfold lateL logD
      rw [List.map_append, List.map_append, List.map_take, List.map_drop] <;> rfl
    case loop =>
      have hAt : ∀ (g : Gh) (s : QSt) (gg : Gh) H', ((As.same H).and (((quO K (g 0) a (gg 0) s.2).and (tabA K (gg 0) (tabD s.1))).and (As.pure (H (g 0) = none ∧ H (gg 0) = none)))).p H' → (boO K b a q es e u).p H' := fun g s gg H' c => hb H' c.1
      refine ss_accFor 5 6 (lateF S) encI (fun g s gg => (As.same H).and (((quO K (g 0) a (gg 0) s.2).and (tabA K (gg 0) (tabD s.1))).and (As.pure (H (g 0) = none ∧ H (gg 0) = none)))) (fun k s => s = runL S ((lateL es now deeds).take k) ([], 0)) (idxL 0 (lateL es now deeds)) (([] : Tab), (0 : Int)) (fun g i => g (i + 1)) rfl sc_late.nd rfl rfl (by decide) rfl rfl PassesOwn.never
        (g_make H (B := As.same H) (Gi := fun o g' => (As.same H).and (((quO K o a (g' 0) 0).and (tabA K (g' 0) [])).and (As.pure (H o = none ∧ H (g' 0) = none)))) (mk_Queue T) (h_Queue_init T) (hr.mono (by decide)) (g_Queue T) (a_one (e_getF (cl_Book T) (na_Book_by T) (e_var 0) hb rfl)) (fun H' x e0 hx => (Mv.of_same e0 : Mv [] H H').free hx) fun o ho => spWG_ok (fun H1 c => ⟨o, a, rfl, c.2, rfl, rfl, rfl⟩) fun g' H1 H' n c m k => ⟨((Mv.of_same c.1 : Mv [] H H1).skip m ho).same, k, ho, (Mv.of_same c.1 : Mv [] H H1).free (n 0)⟩)
        (fun g H' c => c) rfl (by rw [idx_len, hLlen]; exact Nat.lt_of_le_of_lt hes (by decide)) (fun g q' => by rw [← enum_idx]; exact i_enumT (n_enumerate T) (e_var 4)) (fun _ _ _ _ _ => trivial)
        (pg_tup rfl (pgs_cons (pg_name (i := 7) sc_late.nd rfl (Or.inl rfl)) (pgs_cons (pg_tup rfl (pgs_cons (pg_name (i := 8) sc_late.nd rfl (Or.inl rfl)) (pgs_cons (pg_name (i := 9) sc_late.nd rfl (Or.inl rfl)) pgs_nil))) pgs_nil)))
        (tg_tup (tgs_cons (tg_name 7) (tgs_cons (tg_pair 8 9) tgs_nil)) fun ds δ δ' e0 => ?tgl) (fun g s gg H' c xs hA hc hL => ?hl) (fun t h => pss_one (ps_try_thru0 h)) (fun q' δ' A' hd => e_var 6 hd) (fun g q' k x s gg hx hP => ?turn) (fun g gg => ?rest) rfl
      case tgl =>
        match ds, e0 with
        | [_, _], _ => rfl
        | [], e0 => cases e0
        | [_], e0 => cases e0
        | x1 :: x2 :: x3 :: xs, e0 =>
          obtain ⟨δ1, h1, h2⟩ := Option.bind_eq_some_iff.mp e0
          cases h2
      case hl =>
        rcases hL with h | h | h
        · exact h
        · rcases h with h | h
          · have h : c = g 0 := h
            obtain ⟨dx, fs, h1, _⟩ := hA.2.1.1
            rw [← h, hc] at h1
            cases h1
          · have h : c = gg 0 := h
            obtain ⟨kvs, h1, _⟩ := hA.2.1.2
            rw [← h, hc] at h1
            cases h1
        · exact h.elim
      case turn =>
        obtain ⟨hx1, hx2⟩ := idx_get hx
        obtain ⟨tok, hlo⟩ := runL_ok (S := S) TabOk.nil hlog k
        rw [← hP] at tok hlo
        have hk : k < (lateL es now deeds).length := (List.getElem?_eq_some_iff.mp hx2).1
        have ed : (lateL es now deeds).drop k = x.2 :: (lateL es now deeds).drop (k + 1) := by rw [List.drop_eq_getElem_cons hk, (List.getElem?_eq_some_iff.mp hx2).2]
        rw [ed] at hlo
        have hent := hlo.1
        refine ⟨_, rfl, rfl, ⟨[7, 8, 9], rfl⟩, ?_, g_meth (cl_Queue T) (me_Queue_do T) (h_Queue_do T) hr (e_var 5) (fun H' c => qu_nolk c.2.1.1) (a_cons (e_var 8 (d := .int x.2.1)) (a_one (e_listT (ds := x.2.2.map deedD) (n_list T) (e_var 9)))) (spWG_ok (fun H1 c => ⟨g 0, a, gg 0, S, s.2, x.2.1, s.1, x.2.2, rfl, ⟨c.2.1.1, c.2.1.2, set_none hset c.2.2.2 c.1, ok, tok⟩, hent.1, hent.2.1, hent.2.2, rfl, rfl, rfl⟩) fun g' H1 H' nw c m k => ⟨((Mv.of_same c.1 : Mv [] H H1).skip m c.2.2.1).same, k, c.2.2.1, (Mv.of_same c.1 : Mv [] H H1).free (nw 0)⟩)⟩
        show runE S s x.2 = runL S ((lateL es now deeds).take (k + 1)) ([], 0)
        unfold runL
        rw [foldl_snoc_take hx2, hP] <;> rfl
      case rest =>
        have hfin : fins (lateF S) (idxL 0 (lateL es now deeds)) (([] : Tab), (0 : Int)) = runL S (lateL es now deeds) ([], 0) := fins_idx S 0 _ _
        have hres : (outs (lateF S) (idxL 0 (lateL es now deeds)) (([] : Tab), (0 : Int)))[placeM es now]? = some (.lst (doR S now (runL S (es.take (placeM es now)) ([], 0)).1 deeds)) := by
          have hL1 : (lateL es now deeds).take (placeM es now) = es.take (placeM es now) := by
            unfold lateL
            rw [List.append_assoc, List.take_append_of_le_length (by rw [List.length_take]; omega), List.take_take, Nat.min_self]
          have hL2 : (lateL es now deeds)[placeM es now]? = some (now, deeds) := by
            unfold lateL
            rw [List.append_assoc, List.getElem?_append_right (by rw [List.length_take]; omega), List.length_take, Nat.min_eq_left hpl, Nat.sub_self] <;> rfl
          have hL3 := idx_get' (i := 0) hL2
          have h := outs_get (lateF S) (idxL 0 (lateL es now deeds)) (([] : Tab), (0 : Int)) (placeM es now) _ hL3
          rw [h, idx_take, fins_idx, hL1] <;> rfl
        rw [hfin]
        refine ss_cons (s_expr (c_meth (cl_Book T) (me_Book_turn_to T) (h_turn_to T) (hr.mono (by decide)) (e_var 0) (fun H' c => bo_nolk (hb H' c.1)) (a_cons (e_var 4) (a_one (e_var 5)))
          (spW_ok (fun H1 c => ⟨b, a, q, e, u, g 0, es, lateL es now deeds, n, last, [], rfl, hb H1 c.1, (earlA K e n last).mono c.1 hea, (lstA K u []).mono c.1 hun, me, mu, hne, hn, rfl, rfl, rfl⟩)
            (G := (As.mv [b, e, u] H).and ((boA K b a (g 0) (gg 0) e u (lateL es now deeds) (runL S (lateL es now deeds) ([], 0)).2 (runL S (lateL es now deeds) ([], 0)).1 (n + 1) (some (.tup [logD es, .ref q]))).and (As.pure (H (g 0) = none ∧ H (gg 0) = none)))) fun H1 H' c m k => ⟨(Mv.of_same c.1).trans m, ⟨k.1, k.2, (quO K (g 0) a (gg 0) _).frame m (fun y hy l => ?f1) c.2.1.1, (tabA K (gg 0) _).frame m (fun y hy l => ?f2) c.2.1.2⟩, c.2.2⟩)))
          (ss_toX (ss_one (s_ret (e_ixL (e_var 6) (e_var 3) (atI_nat hres)))) fun H' c => ⟨gh11 g gg, fun i => ?fr, c.1, c.2.1, rfl⟩)
        case f1 =>
          obtain ⟨k1, k2, k3⟩ := trk _ c.2.2.1
          have l : y = g 0 := l
          subst l
          simp at hy
          rcases hy with hy | hy | hy
          · exact absurd hy k1
          · exact absurd hy k2
          · exact absurd hy k3
        case f2 =>
          obtain ⟨k1, k2, k3⟩ := trk _ c.2.2.2
          have l : y = gg 0 := l
          subst l
          simp at hy
          rcases hy with hy | hy | hy
          · exact absurd hy k1
          · exact absurd hy k2
          · exact absurd hy k3
        case fr =>
          unfold gh11
          split
          · exact c.2.2.1
          · exact c.2.2.2
end
end RQ
set_option Elab.async false
set_option linter.all false
set_option maxRecDepth 100000
set_option maxHeartbeats 4000000
namespace Dx
open PySem PySem.Spec PyProof.Rows L2
/-! ### count of texts in a list -/
def eqkS (k : Str) : Value → Bool
  | .str x _ => x == k
  | _ => false
theorem strs_of_vals : ∀ {xs : List Str} {us : List Value}, Vals (xs.map V.str) us → ∀ u ∈ us, ∃ x t, u = Value.str x t
  | [], _, h, u, hu => by cases h; cases hu
  | x :: xs, _, h, u, hu => by
    cases h with
    | cons r rr =>
      obtain ⟨t, rfl⟩ := r
      rcases List.mem_cons.mp hu with e | hu
      · exact ⟨x, t, e⟩
      · exact strs_of_vals rr u hu
theorem eqkS_count (k : Str) : ∀ {xs : List Str} {us : List Value}, Vals (xs.map V.str) us → us.countP (eqkS k) = xs.count k
  | [], _, h => by cases h; rfl
  | x :: xs, _, h => by
    cases h with
    | cons r rr =>
      obtain ⟨t, rfl⟩ := r
      rw [List.countP_cons, List.count_cons, eqkS_count k rr] <;> rfl
def rCntS (K : PySem.W.Frag) : V → List V → Hp → VK → Prop := fun x xs H Q => ∃ (p : Addr) (ns : List Str) (k : Str), x = .ref p ∧ xs = [.str k] ∧ SqL K H p (ns.map V.str) ∧ Q (.int (ns.count k : Nat)) H
theorem mt_lcountS {X : Cx} : MtR X "list.count" (rCntS X.K) := by
  intro pins s σ H x xs v us Q I rx rxs h
  obtain ⟨p, ns, k, rfl, rfl, hs, q⟩ := h
  cases rx
  obtain ⟨u, rfl, ru⟩ := rxs.one
  obtain ⟨t, rfl⟩ := ru
  obtain ⟨its, rv, ⟨⟨cls, dd, data, sl⟩, n, ho, hc, hdn, hd⟩, hlen⟩ := I.list hs
  simp only at hc hd
  subst hc hd
  refine call_meets PySem.F.slot_list_count ⟨_, ho, rfl⟩ PySem.F.entry_list_count (PySem.F.args_list_count_2 _ _)
    (SeqAt.list_countAt p its.toArray n dd sl (.str k t) (eqkS k)) ⟨ho, fun y hy => ?_, ?_⟩
  · obtain ⟨x, tx, rfl⟩ := strs_of_vals rv y (by simpa using hy)
    exact SeqAt.EqAt.str_str x tx k t
  · have ec : its.toArray.toList.countP (eqkS k) = ns.count k := by
      exact eqkS_count k rv
    refine ⟨.int (ns.count k : Nat), H, I.tok _, ⟨s.toks, ?_⟩, q⟩
    show Value.int ((its.toArray.toList.countP (eqkS k) : Nat) : Int) s.toks = Value.int ((ns.count k : Nat) : Int) s.toks
    rw [ec]
section
variable {X : Cx} {M : AS} {A B C G : As} {δ δ' : LS} {pos p p2 apos cpos epos : Pos} {x y z d : D} {a b c e o tg iter : Expr} {items : List D}
theorem e_countS {xs : List Str} {k : Str} (ho : PE X o (tC X.K M A δ B (.lst (xs.map D.str)))) (he : PE X e (tC X.K M B δ C (.str k))) (hbase : attributeBase o "count" X.env (eval o X.env) = eval o X.env := by rfl)
    (hfew : ((backTo cpos (starEach (e :: []) X.env)).all (fun x => !x.1) && (backToKw cpos (keywordEach [] X.env)).all (fun x => x.1.isSome) && decide ((e :: []).length + ([] : List Keyword).length + (if ([] : List Keyword).isEmpty then 0 else 1) < 30)) = true := by rfl)
    (hline : (apos.endLine == cpos.line) = true := by rfl) (hs : starEach (e :: []) X.env = (false, eval e X.env) :: starEach [] X.env := by rfl) (hplain : (backTo cpos (starEach [] X.env)).any (·.1) = false := by rfl) : PE X (.Call (.Attribute o "count" apos) [e] [] cpos) (tC X.K M A δ C (.int (xs.count k : Nat))) :=
  e_bm PySem.F.plainAttrs_list PySem.F.slot_list_count PySem.F.type_list_count mt_lcountS ho (a_one he hs) (fun H v b r => ty_lst r) (fun H v vs c t r1 r2 Q q => by
    obtain ⟨p1, ys, rfl, h1, m1, l1⟩ := r1.lst_inv
    rw [l1.strs_inv] at h1
    cases r2 with
    | cons r2 r3 =>
      cases r3
      cases r2
      exact ⟨p1, xs, k, rfl, rfl, SqL.of h1, q _ H (Kp.refl H) c (.int _)⟩) hbase hfew hline hs hplain
/-- x in a constant tuple of texts -/
theorem rd_inK {K : PySem.W.Frag} {w : Str} {xs : List Str} : RD K M C (rIn K false) (.str w) (.ktup (xs.map D.str)) (.bl (decide (w ∈ xs))) := fun H v u c t r1 r2 Q q => by
  cases r1
  obtain ⟨a, ys, rfl, h1, l1⟩ := r2.ktup_inv
  have e0 := l1.strs_inv
  refine ⟨a, _, rfl, .inr (h1 H), rfl, by rw [e0]; exact flat_strs xs, ?_⟩
  rw [e0, inV_strs]
  exact q _ H (Same.refl H) (.bl _)
/-- a <= b <= c of ints, all in the same state -/
theorem t_chain {i j k : Int} {op op' : CmpOp} {r r' : R2} {b1 b2 : Bool} (ho : OpR X (compareOp op) r) (ho' : OpR X (compareOp op') r') (ha : PE X a (tC X.K M A δ A (.int i))) (hb : PE X b (tC X.K M A δ A (.int j))) (hc : PE X c (tC X.K M A δ A (.int k))) (h1 : RD X.K M A r (.int i) (.int j) (.bl b1)) (h2 : RD X.K M A r' (.int j) (.int k) (.bl b2))
    (hm : lastMarks [op, op'] [b, c] = false := by with_unfolding_all rfl) : PT X (.Compare a [op, op'] [b, c] pos) (tCT X.K M A δ A (b1 && b2)) :=
  pt_imp (L2.pt_chain ho ho' ha hb hc hm) fun σ H Q ⟨s, q⟩ => ⟨s, fun v H1 k1 a1 r1 => ⟨s.kp k1 a1, fun w H2 k2 a2 r2 => h1 H2 v w a2 (tr_kp s.tr (k1.trans k2)) (r1.kp k2 _ v) r2 _ fun u H3 e3 r3 => by
    cases r3
    refine ⟨b1, rfl, ?_⟩
    have k13 := (k1.trans k2).trans (.of_same e3)
    cases b1 with
    | false =>
      refine iteF ?_
      exact ⟨false, rfl, q H3 k13 (A.mono e3 a2)⟩
    | true =>
      refine iteT ?_
      exact ⟨s.kp k13 (A.mono e3 a2), fun x H4 k4 a4 r4 => h2 H4 w x a4 (tr_kp s.tr (k13.trans k4)) ((r2.kp (.of_same e3) _ w).kp k4 _ w) r4 _ fun y H5 e5 r5 => by
        cases r5
        exact ⟨b2, rfl, q H5 ((k13.trans k4).trans (.of_same e5)) (A.mono e5 a4)⟩⟩⟩⟩
theorem it_core {J : It} {n : Nat} {G : Hp → Prop} {Y : Nat → Hp → V → Hp → Prop} (w : Walk J n G Y) (T : V → Hp → (Hp → Prop) → Prop) {H0 : Hp} {Qd : Hp → Prop} (Pv : Nat → Hp → Prop) (h0 : Pv 0 H0) (hG : ∀ i H, i ≤ n → Pv i H → G H)
    (hs : ∀ i x H H', i < n → Pv i H → Y i H x H' → T x H' (Pv (i + 1))) (hd : ∀ H, Pv n H → Qd H) :
    ∃ W : Nat → Nat → Hp → Prop, (∃ m, W 0 m H0) ∧ ∀ i m H, W i m H → (J.stop i H ∧ Qd H) ∨ (J.go i H ∧ ∃ Nx : Hp → Prop, (∀ H', Nx H' → ∃ m', m' < m ∧ W (i + 1) m' H') ∧ ∀ x H', J.yld i H x H' → T x H' Nx) := by
  refine ⟨fun i m H => m = n - i ∧ i ≤ n ∧ Pv i H, ⟨n, by simp, Nat.zero_le _, h0⟩, ?_⟩
  rintro i m H ⟨rfl, hi, p⟩
  have q := hG i H hi p
  by_cases hlt : i < n
  · exact .inr ⟨w.goes i H hlt q, Pv (i + 1), fun H' p' => ⟨n - (i + 1), by omega, rfl, hlt, p'⟩, fun x H' y => hs i x H H' hlt p (w.yields i H x H' hlt q y)⟩
  · have e : i = n := by omega
    subst e
    exact .inl ⟨w.stops H q, hd H p⟩
theorem take_flat_succ {F : D → List D} {items : List D} {i : Nat} {d : D} (h : items[i]? = some d) : (items.take (i + 1)).flatMap F = (items.take i).flatMap F ++ F d := by
  have e : items.take (i + 1) = items.take i ++ [d] := by rw [List.take_succ, h] <;> rfl
  rw [e, List.flatMap_append] <;> simp
/-- y = [e for .. for ..] on one line; the turns leave the state as it is -/
theorem s_lc2 {i : Nat} {y : Str} {py spos : Pos} {elt tg1 iter1 : Expr} {scope : Scope} {own : List (Str × Nat)} {vs1 js js1 : List Nat} {g g1 : TG} {f f1 : D → LS → Option LS} (F : D → List D) (hc : X.calm = true) (hN : X.N.Nodup) (hy : X.N[i]? = some y) (hyl : X.env.scope.names.lookup y = some .local)
    (hsw : swapsWith (.ListComp elt [⟨tg, iter, [], 0⟩, ⟨tg1, iter1, [], 0⟩] scope pos) (some (.Name y py)) spos.line X.env = pure true) (ok : BlkOk X.N X.env.scope scope own) (hv : ∀ i ∈ vs1, i ∈ own.map (·.2))
    {W : Hp → Prop} (hi : PIt X M tg iter A δ B W items) (hW : ∀ H, B.p H → W H) (hg : ∀ (s : Shared) (H : Hp) (C : Addr) (cl : List (Str × Addr)) (fp : List Addr), PG (X.blk s H scope (compEnvC scope cl C X.env) fp) tg g) (tgk : TgOk X.K g js f) (hjs : ∀ j ∈ js, j ∈ own.map (·.2))
    (hg1 : ∀ (s : Shared) (H : Hp) (C : Addr) (cl : List (Str × Addr)) (fp : List Addr), PG (X.blk s H scope (compEnvC scope cl C X.env) fp) tg1 g1) (tgk1 : TgOk X.K g1 js1 f1) (hjs1 : ∀ j ∈ js1, j ∈ vs1) (hz : (items.flatMap F).length ≤ sizeLine)
    (turns : ∀ M' : AS, (∀ a, M.x a → M'.x a) → M'.c = M.c → ∀ d ∈ items, ∃ (δ1 : LS) (items1 : List D), f d (wipeL δ (own.map (·.2))) = some δ1 ∧ items1 = F d ∧ (∀ s H C cl fp, PE (X.blk s H scope (compEnvC scope cl C X.env) fp) iter1 (tC X.K M' B δ1 B (.tup items1))) ∧
      ∀ d1 ∈ items1, ∃ δ2, f1 d1 (wipeL δ1 vs1) = some δ2 ∧ ∀ s H C cl fp, PE (X.blk s H scope (compEnvC scope cl C X.env) fp) elt (tC X.K M' B δ2 B d1))
    (hs : ∀ x, foldedSetIterable iter X.env x = pure x := by intro _; rfl) (hs1 : ∀ env x, foldedSetIterable iter1 env x = pure x := by intro _ _; rfl) :
    PS X (.Assign [.Name y py] (.ListComp elt [⟨tg, iter, [], 0⟩, ⟨tg1, iter1, [], 0⟩] scope pos) spos) (tO X.K M A δ (.nx B (δ.set i (some (.lst (items.flatMap F)))))) := by
  obtain ⟨wi, hpi, hwi⟩ := hi.ex
  refine ⟨fun pins s0 σ H E I h => ?_⟩
  refine (ps_setLc2 (wi1 := fun σ H R => ∃ wi, (∀ s H C cl fp, PI (X.blk s H scope (compEnvC scope cl C X.env) fp) tg1 iter1 wi) ∧ wi σ H R) hc hN hy hyl hsw hpi ok hv hg (fun s H C cl fp => pts_any (Y := fun s H C cl fp => X.blk s H scope (compEnvC scope cl C X.env) fp) s H C cl fp) (fun s H C cl fp => ⟨fun pins s' σ H' R I ⟨wi, h, q⟩ => (h s H C cl fp).run pins s' σ H' R I q⟩) hg1 (fun s H C cl fp => pts_any (Y := fun s H C cl fp => X.blk s H scope (compEnvC scope cl C X.env) fp) s H C cl fp) (fun s H C cl fp => pe_any (Y := fun s H C cl fp => X.blk s H scope (compEnvC scope cl C X.env) fp) s H C cl fp) hs hs1).run pins s0 σ H E I ?_
  obtain ⟨s, q⟩ := h
  refine hwi σ H _ s fun J n G Y H1 k1 b1 w hn hGY => ?_
  intro D0 hD
  subst hn
  have tr1 : Tr M H1 := tr_kp s.tr k1
  have nM : ¬ M.x D0 := tr_new tr1 hD
  have nL : ¬ B.L D0 := fun z => B.trk b1 z hD
  have Mm : ∀ a, (M.hide D0).x a → M.x a ∨ H1 a = none := fun a h => h.elim .inl fun z => .inr (by rw [z]; exact hD)
  have Tn := turns (M.hide D0) (fun a h => .inl h) rfl
  obtain ⟨hG, hY⟩ := hGY (M.hide D0) Mm
  have s1 : RelS X.K (M.hide D0) H1 σ δ := (s.s.kp k1).more Mm
  have ncD : ¬ (M.hide D0).c D0 := fun z => nM (M.sub _ z)
  have lk : ∀ {H' H'' : Hp}, Kp M H' H'' → Kp (M.hide D0) H' H'' := fun k => k.less fun _ h => h
  have kl : ∀ {H' H'' : Hp}, Kp (M.hide D0) H' H'' → Kp M H' H'' := fun k => k.less fun _ h => h
  have fw : ∀ {H' : Hp}, Kp (M.own D0) H1 H' → Kp M H1 H' := fun k => k.fewer (M := M) fun a (z : M.c a ∨ a = D0) => z.elim Or.inl fun z => Or.inr (by rw [z]; exact hD)
  have trD : ∀ H', Kp M H1 H' → (∃ acc, H' D0 = some (.lst acc)) → Tr (M.hide D0) H' := fun H' k e a m => m.elim (fun m => k.trk a (tr1 a m)) fun z => by
    obtain ⟨acc, e⟩ := e
    rw [z, e]
    exact fun z => by cases z
  refine it_core w (fun x H' Nx => g x (L2.wipe σ (own.map (·.2))) H' fun σ2 H2 => L2.wipe σ2 (own.map (·.2)) = L2.wipe σ (own.map (·.2)) ∧ anyT (fun s H C cl fp => X.blk s H scope (compEnvC scope cl C X.env) fp) [] σ2 H2 fun b H3 => if b = true then (∃ wi, (∀ s H C cl fp, PI (X.blk s H scope (compEnvC scope cl C X.env) fp) tg1 iter1 wi) ∧ wi σ2 H3 fun J1 H4 => ∃ W1 : Nat → Nat → Hp → Prop, (∃ m, W1 0 m H4) ∧ ∀ j k H, W1 j k H →
      (J1.stop j H ∧ Nx H) ∨ (J1.go j H ∧ ∃ Nx1 : Hp → Prop, (∀ H', Nx1 H' → ∃ k', k' < k ∧ W1 (j + 1) k' H') ∧ ∀ x H', J1.yld j H x H' → g1 x (L2.wipe σ2 vs1) H' fun σ3 H5 => L2.wipe σ3 vs1 = L2.wipe σ2 vs1 ∧ anyT (fun s H C cl fp => X.blk s H scope (compEnvC scope cl C X.env) fp) [] σ3 H5 fun b H6 =>
        if b = true then anyE (fun s H C cl fp => X.blk s H scope (compEnvC scope cl C X.env) fp) elt σ3 H6 fun y H7 => ∃ acc, H7 D0 = some (.lst acc) ∧ acc.length < sizeLine ∧ Nx1 (upd H7 D0 (.lst (acc ++ [y]))) else Nx1 H6)) else Nx H3)
    (fun i H' => Kp M H1 H' ∧ B.p H' ∧ ∃ acc, H' D0 = some (.lst acc) ∧ RpL X.K (M.hide D0) H' acc ((items.take i).flatMap F)) ⟨.new hD, B.mono (Same.new hD) b1, [], upd_same, .nil⟩ (fun i H' _ pv => hG H' (lk pv.1) (hW H' pv.2.1)) (fun i x H2 H3 hi2 pv y => ?_) fun H2 pv => ?_
  · obtain ⟨k2, a2, acc, e2, r2⟩ := pv
    obtain ⟨sm, d, ed, rd⟩ := hY i H2 x H3 (lk k2) y hi2
    obtain ⟨δ1, items1, ef, eI, hin, hel⟩ := Tn d (List.mem_of_getElem? ed)
    subst eI
    have k3 : Kp M H1 H3 := k2.trans (.of_same sm)
    have e3 := sm _ _ e2
    have r3 := r2.kp (.of_same sm)
    refine tgk (M.hide D0) x d _ δ1 _ H3 _ ef rd ((s1.kp (lk k3)).wipe _) fun σ' s' wp => ?_
    refine ⟨by rw [wp _ hjs, wipe_idem _ _ fun _ h => h], ?_⟩
    have st3 : St0 X.K (M.hide D0) B δ1 σ' H3 := ⟨B.mono sm a2, trD H3 k3 ⟨acc, e3⟩, s'⟩
    refine ⟨tCT X.K (M.hide D0) B δ1 B true, fun s H C cl fp => ts_nil, st3, fun H4 k4 b4 => ?_⟩
    refine iteT ?_
    refine ⟨iTup X.K (tC X.K (M.hide D0) B δ1 B (.tup (F d))), fun s H C cl fp => pi_tup (X := X.blk s H scope (compEnvC scope cl C X.env) fp) (tg := tg1) (hin s H C cl fp), st3.kp k4 b4, fun v H5 k5 b5 r5 => ?_⟩
    obtain ⟨a1, xs, rfl, h5, l5⟩ := r5.tup_inv'
    have k35 : Kp (M.hide D0) H3 H5 := k4.trans k5
    have e5 := k35.lst _ _ e3 ncD
    have r5' := r3.kp k35
    have xe : ∀ c, (M.own D0).x c → (M.hide D0).x c := fun c z => z
    have xe' : ∀ c, (M.hide D0).x c → (M.own D0).x c := fun c z => z
    have ho : ∀ {H' H'' : Hp}, Kp (M.hide D0) H' H'' → Kp (M.own D0) H' H'' := fun k => k.less fun _ h => .inl h
    have l5o : RpL X.K (M.own D0) H5 xs (F d) := l5.less xe
    have s5o : RelS X.K (M.own D0) H5 σ' δ1 := (s'.kp k35).less xe
    have k15 : Kp (M.own D0) H1 H5 := ((k3.trans (kl k35)).less fun _ h => .inl h)
    have tot : ((items.take i).flatMap F).length + (F d).length ≤ sizeLine := by
      have h1 := take_flat_succ (F := F) ed
      have h2 : ((items.take (i + 1)).flatMap F).length ≤ (items.flatMap F).length := by
        conv => rhs; rw [← List.take_append_drop (i + 1) items, List.flatMap_append, List.length_append]
        exact Nat.le_add_right _ _
      rw [h1, List.length_append] at h2
      exact Nat.le_trans h2 hz
    refine ⟨a1, rfl, ⟨xs, SqT.of h5⟩, ?_⟩
    refine it_core walk_tup (fun x H' Nx1 => g1 x (L2.wipe σ' vs1) H' fun σ3 H5 => L2.wipe σ3 vs1 = L2.wipe σ' vs1 ∧ anyT (fun s H C cl fp => X.blk s H scope (compEnvC scope cl C X.env) fp) [] σ3 H5 fun b H6 =>
        if b = true then anyE (fun s H C cl fp => X.blk s H scope (compEnvC scope cl C X.env) fp) elt σ3 H6 fun y H7 => ∃ acc, H7 D0 = some (.lst acc) ∧ acc.length < sizeLine ∧ Nx1 (upd H7 D0 (.lst (acc ++ [y]))) else Nx1 H6)
      (fun j H' => Kp (M.own D0) H5 H' ∧ B.p H' ∧ ∃ acc, H' D0 = some (.lst acc) ∧ RpL X.K (M.hide D0) H' acc ((items.take i).flatMap F ++ (F d).take j)) ⟨.refl _, b5, acc, e5, by rw [List.take_zero, List.append_nil]; exact r5'⟩ (fun j H' _ pv => SqT.of (pv.1.tup _ _ h5)) (fun j x1 H60 H6 hj pv y1 => ?_) fun H6 pv => ?_
    · obtain ⟨rfl, hx1⟩ := y1
      obtain ⟨k6, b6, acc6, e6, r6⟩ := pv
      obtain ⟨d1, ed1, rd1⟩ := (l5o.kp k6).getV hx1
      obtain ⟨δ2, ef2, he2⟩ := hel d1 (List.mem_of_getElem? ed1)
      have tr6 : Tr (M.hide D0) H6 := trD H6 (fw (k15.trans k6)) ⟨acc6, e6⟩
      refine tgk1 (M.hide D0) x1 d1 _ δ2 _ H6 _ ef2 (rd1.less xe' _ _) (((s5o.kp k6).less xe').wipe _) fun σ3 s3 wp3 => ?_
      refine ⟨by rw [wp3 _ hjs1, wipe_idem _ _ fun _ h => h], ?_⟩
      have st6 : St0 X.K (M.hide D0) B δ2 σ3 H6 := ⟨b6, tr6, s3⟩
      refine ⟨tCT X.K (M.hide D0) B δ2 B true, fun s H C cl fp => ts_nil, st6, fun H7 k7 b7 => ?_⟩
      refine iteT ?_
      refine ⟨_, he2, st6.kp k7 b7, fun v H8 k8 b8 r8 => ?_⟩
      have k68 := k7.trans k8
      have e8 := k68.lst _ _ e6 ncD
      have r8' := r6.kp k68
      have hlen : acc6.length = ((items.take i).flatMap F).length + j := by
        rw [r6.length, List.length_append, List.length_take]
        have := (List.getElem?_eq_some_iff.mp ed1).1
        omega
      have hjl := (List.getElem?_eq_some_iff.mp ed1).1
      have ku : Kp (M.own D0) H8 (upd H8 D0 (.lst (acc6 ++ [v]))) := .upd e8 (fun _ z => by cases z) (.inl (.inr rfl))
      refine ⟨acc6, e8, by omega, (k6.trans (ho k68)).trans ku, B.stab e8 nL b8, acc6 ++ [v], upd_same, ?_⟩
      have e9 : (F d).take (j + 1) = (F d).take j ++ [d1] := by rw [List.take_succ, ed1] <;> rfl
      rw [e9, ← List.append_assoc]
      exact (((r8'.append (RpL.one r8)).less xe).kp ku).less xe'
    · obtain ⟨k6, b6, acc6, e6, r6⟩ := pv
      rw [l5.length, List.take_length, ← take_flat_succ ed] at r6
      exact ⟨fw (k15.trans k6), b6, acc6, e6, r6⟩
  · obtain ⟨k2, a2, acc, e2, r2⟩ := pv
    rw [List.take_length] at r2
    exact q _ H2 (k1.trans k2) a2 ((s.s.kp (k1.trans k2)).set i (.lst e2 nM (r2.less (M' := M) fun a z => (show M.x a ∨ a = D0 from Or.inl z))))
end
end Dx
set_option Elab.async false
set_option linter.all false
set_option maxRecDepth 100000
set_option maxHeartbeats 4000000
namespace RQ
open PySem PySem.Spec PyProof.Rows L2 Dx
theorem can_strs : ∀ {ws : List Str}, (∀ w ∈ ws, PyData.strOk w = true) → PyData.canLayAll0 (toPyL (ws.map D.str)) = true
  | [], _ => rfl
  | w :: ws, h => by
    show (PyData.strOk w && PyData.canLayAll0 (toPyL (ws.map D.str))) = true
    rw [h w (by simp), can_strs fun x hx => h x (by simp [hx])] <;> rfl
theorem dep_strs : ∀ ws : List Str, PyData.depthAll (toPyL (ws.map D.str)) = 0
  | [] => rfl
  | w :: ws => by
    show max (PyData.depth (.str w)) (PyData.depthAll (toPyL (ws.map D.str))) = 0
    rw [dep_strs ws] <;> rfl
theorem shaped_strs {ws : List Str} (h : ∀ w ∈ ws, PyData.strOk w = true) : SeqAt.shaped (toPy (.tup (ws.map D.str))) = true := by
  unfold SeqAt.shaped
  refine Bool.and_eq_true_iff.mpr ⟨can_strs h, decide_eq_true ?_⟩
  show PyData.depthAll (toPyL (ws.map D.str)) + 1 ≤ 64
  rw [dep_strs]
  decide
theorem plain_strs : ∀ ws : List Str, plainL (ws.map D.str) = true
  | [] => rfl
  | w :: ws => plain_strs ws
def wordsL : List Str := ["check", "effect", "finish", "follow"]
theorem words_ok : ∀ w ∈ wordsL, PyData.strOk w = true := by decide +kernel
def partD (ws : List Str) : D := .tup (ws.map D.str)
def PartOk (ws : List Str) : Prop := ws ≠ [] ∧ (∀ w ∈ ws, w ∈ wordsL) ∧ ws.length ≤ 1000
section
variable {P : Program} {w : World} {K : PySem.W.Frag} {mg : Str → Option Value} {base : Heap}
def prePart : Hp → List D → D → Prop := fun _ ds d => ∃ ws, ds = [partD ws] ∧ PartOk ws ∧ d = .bl true
theorem sc_is_part : FnScope ["thing", "word"] ["thing"] (defScope s_is_part) := ⟨rfl, rfl, rfl, by decide +kernel, rfl, by decide +kernel, by decide +kernel⟩
theorem all_true : ∀ {α : Type} (xs : List α), (xs.map fun _ => true).all id = true
  | _, [] => rfl
  | _, x :: xs => all_true xs
theorem h_is_part (T : Txt K mg) : Has P w K mg base 1 (atG "is_part" K) ["thing"] (spF K prePart) := by
  obtain ⟨fd, F⟩ := f_is_part T
  refine ⟨fd, okF F sc_is_part (fun H ds d h => ?_) (fun H H' ds d _ h => h) fun cdv A outer s H E M ds d hr h => ?_, F.bindsN fun _ _ _ _ _ _ us hl => match us, hl with | [_], _ => rfl, F.kp⟩
  · obtain ⟨ws, rfl, _⟩ := h
    rfl
  · obtain ⟨ws, rfl, ⟨h1, h2, h3⟩, rfl⟩ := h
    refine ⟨.rt (As.same H) _, ⟨fun _ h => h, rfl⟩, ss_one (s_ret (e_and (B := As.same H) (k := true) (e_isi "tuple" (n_isinstance T) (e_var 0) (n_tuple T) (.tup _)) (fun _ => e_and (B := As.same H) (k := true) (e_is (e_neD (x := partD ws) (y := .tup []) (k := false) hr.units (e_var 0) (e_tup a_nil) (plain_strs ws) rfl (shaped_strs fun w hw => words_ok w (h2 w hw)) rfl ?ne) rfl) (fun _ => e_one (e_is (e_callB (cr_all rfl) (a_one (e_is (d' := .lst ((ws.map fun _ => true).map D.bl)) (e_lcM (own := [("word", 1)]) (g := gName 1) (js := [1]) (f := fOne 1) (items := ws.map D.str) (fun _ => .bl true) rfl sc_is_part.nd (blkOk_by (N := ["thing", "word"]) (sc := defScope s_is_part) (by decide +kernel)) (i_tup (e_var 0)) (fun _ _ => trivial) (fun _ _ _ _ _ => pg_name (i := 1) sc_is_part.nd rfl (Or.inl rfl)) (tg_name 1) (fun _ h => h) (by rw [List.length_map]; exact Nat.lt_of_le_of_lt h3 (by decide)) (fun M' _ _ d hd => ?tt)) (by rw [List.map_map, List.map_map] <;> rfl))) rc_all (n_all T)) (by rw [all_true]))) fun h => by cases h) fun h => by cases h))⟩
    case ne =>
      cases ws with
      | nil => exact absurd rfl h1
      | cons w ws => rfl
    case tt =>
      obtain ⟨x, hx, rfl⟩ := List.mem_map.mp hd
      exact ⟨_, rfl, fun _ _ _ _ _ => e_and2 (k := true) (j := true) (e_isi "str" (n_isinstance T) (e_var 1) (n_str T) (.str x)) fun _ => e_is (e_cmp op_in_seq (e_var 1 (d := .str x)) (e_glob (v := .ref (atG "WORDS" K)) (d := ks ["check", "effect", "finish", "follow"]) (g_WORDS T) rfl (fun H => k_WORDS T _ H)) (rd_inK (xs := ["check", "effect", "finish", "follow"]))) (by rw [decide_eq_true (show x ∈ [("check" : Str), "effect", "finish", "follow"] from h2 x hx)])⟩
/-! ### is_plan -/
structure PlanOk (parts : List (List Str)) : Prop where
  hd : parts.head? = some [("take" : Str)]
  lo : 2 ≤ parts.length
  hi : parts.length ≤ 5
  part : ∀ ws ∈ parts.drop 1, PartOk ws
  eff : (parts.drop 1).flatten.count ("effect" : Str) = 1
  fin : (parts.drop 1).flatten.count ("finish" : Str) = 1
  chk : (parts.drop 1).flatten.count ("check" : Str) < 2
  fol : (parts.drop 1).flatten.count ("follow" : Str) < 2
  few : (parts.drop 1).flatten.length ≤ 1000
def planD (parts : List (List Str)) : D := .lst (parts.map partD)
def prePlan : Hp → List D → D → Prop := fun _ ds d => ∃ parts, ds = [planD parts] ∧ PlanOk parts ∧ d = .bl true
theorem sc_is_plan : FnScope ["thing", "words", "part", "word"] ["thing"] (defScope s_is_plan) := ⟨rfl, rfl, rfl, by decide +kernel, rfl, by decide +kernel, by decide +kernel⟩
def fPart : D → List D
  | .tup ds => ds
  | _ => []
theorem flat_parts (ps : List (List Str)) : (ps.map partD).flatMap fPart = ps.flatten.map D.str := by
  induction ps with
  | nil => rfl
  | cons p ps ih =>
    rw [List.map_cons, List.flatMap_cons, ih, List.flatten_cons, List.map_append] <;> rfl
theorem h_is_plan (T : Txt K mg) : Has P w K mg base 2 (atG "is_plan" K) ["thing"] (spF K prePlan) := by
  obtain ⟨fd, F⟩ := f_is_plan T
  refine ⟨fd, okF F sc_is_plan (fun H ds d h => ?_) (fun H H' ds d _ h => h) fun cdv A outer s H E M ds d hr h => ?_, F.bindsN fun _ _ _ _ _ _ us hl => match us, hl with | [_], _ => rfl, F.kp⟩
  · obtain ⟨ws, rfl, _⟩ := h
    rfl
  · obtain ⟨parts, rfl, ok, rfl⟩ := h
    have hcut : Dx.cutD (parts.map partD) (some (1 : Int)) none = (parts.drop 1).map partD := by
      have := cut_drop (parts.map partD) 1 (by have := ok.lo; rw [List.length_map]; omega)
      rw [← List.map_drop] at this
      exact this
    refine ⟨.rt (As.same H) _, ⟨fun _ h => h, rfl⟩, ?_⟩
    refine ss_cons (s_ifF (t_is ((w_or (A := As.same H) (B := As.same H) (k := false) (j := false) (t_not (k := true) (t_val (e_isi "list" (n_isinstance T) (e_var 0) (n_list T) (.lst _)))) (fun _ => w_or (B := As.same H) (k := false) (j := false) (t_is (t_not (Dx.t_chain (k := 5) op_le op_le e_int (e_lenL (n_len T) (e_var 0)) (e_constI (i_MOST_PARTS T)) (rd_I0 fun _ => .bl _) (rd_I0 fun _ => .bl _))) ?c1) (fun _ => w_or1 (t_is (t_neD (x := partD ["take"]) (y := ks ["take"]) (k := true) hr.units (e_ixL (e_var 0) e_int (d := partD ["take"]) ?i0) (e_glob (v := .ref (atG "TAKE" K)) (g_TAKE T) rfl (fun H => k_TAKE T _ H)) rfl rfl (by decide +kernel) (by decide +kernel) (by decide +kernel)) rfl)) fun h => by cases h) fun h => by cases h).pt) rfl))
      (ss_cons (s_ifF (t_is (t_not (k := true) (t_val (e_is (e_callB (cr_all rfl) (a_one (e_is (d' := .lst (((parts.drop 1).map fun _ => true).map D.bl)) (e_lcM (own := [("part", 2)]) (g := gName 2) (js := [2]) (f := fOne 2) (items := Dx.cutD (parts.map partD) (some (1 : Int)) none) (fun _ => .bl true) rfl sc_is_plan.nd (blkOk_by (N := ["thing", "words", "part", "word"]) (sc := defScope s_is_plan) (by decide +kernel)) (i_list (e_slL (e_var 0) (o_some e_int) o_none)) (fun _ _ => trivial) (fun _ _ _ _ _ => pg_name (i := 2) sc_is_plan.nd rfl (Or.inl rfl)) (tg_name 2) (fun _ h => h) ?z1 ?t1) ?e1)) rc_all (n_all T)) (by rw [all_true])))) rfl))
      (ss_cons (s_eq (δ2 := [some (planD parts), some (.lst ((parts.drop 1).flatten.map D.str)), none, none]) (s_lc2 (i := 1) (own := [("part", 2), ("word", 3)]) (vs1 := [3]) (g := gName 2) (js := [2]) (f := fOne 2) (g1 := gName 3) (js1 := [3]) (f1 := fOne 3) (items := Dx.cutD (parts.map partD) (some (1 : Int)) none) fPart rfl sc_is_plan.nd rfl rfl (sw_true rfl rfl rfl (by decide +kernel)) (blkOk_by (N := ["thing", "words", "part", "word"]) (sc := defScope s_is_plan) (by decide +kernel)) (by simp) (i_list (e_slL (e_var 0) (o_some e_int) o_none)) (fun _ _ => trivial) (fun _ _ _ _ _ => pg_name (i := 2) sc_is_plan.nd rfl (Or.inl rfl)) (tg_name 2) (by simp) (fun _ _ _ _ _ => pg_name (i := 3) sc_is_plan.nd rfl (Or.inl rfl)) (tg_name 3) (by simp) ?z2 ?t2) ?e2)
      (ss_cons (s_ifF (t_is (t_or (k := false) (j := false) (t_is (t_neI (e_countS (e_var 1) e_str) e_int) (by rw [ok.eff] <;> rfl)) fun _ => t_is (t_neI (e_countS (e_var 1) e_str) e_int) (by rw [ok.fin] <;> rfl)) rfl))
      (ss_one (s_ret (e_and2 (k := true) (j := true) (e_is (e_lt (e_countS (e_var 1) e_str) e_int) (by rw [decide_eq_true (by have := ok.chk; omega)])) fun _ => e_is (e_lt (e_countS (e_var 1) e_str) e_int) (by rw [decide_eq_true (by have := ok.fol; omega)])))))))
    case c1 =>
      have h1 := ok.lo
      have h2 := ok.hi
      have e1 : decide ((2 : Int) ≤ ((parts.map partD).length : Nat)) = true := decide_eq_true (by rw [List.length_map]; omega)
      have e2 : decide ((((parts.map partD).length : Nat) : Int) ≤ 5) = true := decide_eq_true (by rw [List.length_map]; omega)
      rw [e1, e2] <;> rfl
    case i0 =>
      have h0 := ok.hd
      cases parts with
      | nil => cases h0
      | cons p ps =>
        have : p = [("take" : Str)] := by simpa using h0
        subst this
        exact atI_nat (j := 0) rfl
    case z1 =>
      rw [hcut, List.length_map, List.length_drop]
      have := ok.hi
      exact Nat.lt_of_le_of_lt (Nat.le_trans (Nat.sub_le _ _) this) (by decide)
    case t1 =>
      intro M' _ _ d hd
      rw [hcut] at hd
      obtain ⟨ws, hws, rfl⟩ := List.mem_map.mp hd
      exact ⟨_, rfl, fun _ _ _ _ _ => c_call (h_is_part T) hr (g_is_part T) (a_one (e_var 2)) (spF_ok fun H' _ => ⟨ws, rfl, ok.part ws hws, rfl⟩)⟩
    case e1 => rw [hcut, List.map_map, List.map_map] <;> rfl
    case z2 =>
      rw [hcut, flat_parts, List.length_map]
      exact Nat.le_trans ok.few (by decide)
    case t2 =>
      intro M' _ _ d hd
      rw [hcut] at hd
      obtain ⟨ws, hws, rfl⟩ := List.mem_map.mp hd
      exact ⟨_, _, rfl, rfl, fun _ _ _ _ _ => e_var 2, fun d1 h1 => ⟨_, rfl, fun _ _ _ _ _ => e_var 3⟩⟩
    case e2 => rw [hcut, flat_parts] <;> rfl
/-! ### read_plan, is_plan_text -/
def partsOf (x : Str) : List (List Str) := (Txt.split x " ").map fun p => Txt.split p "+"
structure TextOk (x : Str) : Prop where
  plan : PlanOk (partsOf x)
  len : x.length ≤ 1000
  parts : ∀ p ∈ Txt.split x " ", p.length ≤ 1000
def preRead : Hp → List D → D → Prop := fun _ ds d => ∃ x, ds = [.str x] ∧ TextOk x ∧ d = planD (partsOf x)
theorem sc_read_plan : FnScope ["text", "plan", "part"] ["text"] (defScope s_read_plan) := ⟨rfl, rfl, rfl, by decide +kernel, rfl, by decide +kernel, by decide +kernel⟩
def fSplit : D → D
  | .str p => partD (Txt.split p "+")
  | _ => .non
theorem h_read_plan (T : Txt K mg) : Has P w K mg base 3 (atG "read_plan" K) ["text"] (spF K preRead) := by
  obtain ⟨fd, F⟩ := f_read_plan T
  refine ⟨fd, okF F sc_read_plan (fun H ds d h => ?_) (fun H H' ds d _ h => h) fun cdv A outer s H E M ds d hr h => ?_, F.bindsN fun _ _ _ _ _ _ us hl => match us, hl with | [_], _ => rfl, F.kp⟩
  · obtain ⟨x, rfl, _⟩ := h
    rfl
  · obtain ⟨x, rfl, ok, rfl⟩ := h
    have hn : (Txt.split x " ").length ≤ 5 := by
      have := ok.plan.hi
      unfold partsOf at this
      rw [List.length_map] at this
      exact this
    have e0 : ((Txt.split x " ").map D.str).map fSplit = (partsOf x).map partD := by
      unfold partsOf
      rw [List.map_map, List.map_map] <;> rfl
    refine ⟨.rt (As.same H) _, ⟨fun _ h => h, rfl⟩, ?_⟩
    exact ss_cons (s_ifF (t_is (t_not (k := true) (t_val (e_isi "str" (n_isinstance T) (e_var 0) (n_str T) (.str x)))) rfl))
      (ss_cons (s_eq (δ2 := [some (.str x), some (planD (partsOf x)), none]) (s_lcM (i := 1) (own := [("part", 2)]) (g := gName 2) (js := [2]) (f := fOne 2) fSplit rfl sc_read_plan.nd rfl rfl (sw_true rfl rfl rfl (by decide +kernel)) (blkOk_by (N := ["text", "plan", "part"]) (sc := defScope s_read_plan) (by decide +kernel)) (i_list (e_split (e_var 0) e_str rfl (Nat.le_trans (Nat.add_le_add_right ok.len 2) (by decide)))) (fun _ _ => trivial) (fun _ _ _ _ _ => pg_name (i := 2) sc_read_plan.nd rfl (Or.inl rfl)) (tg_name 2) (fun _ h => h) (by rw [List.length_map]; exact Nat.lt_of_le_of_lt hn (by decide)) (fun M' _ _ d hd => by
          obtain ⟨p, hp, rfl⟩ := List.mem_map.mp hd
          exact ⟨_, rfl, fun _ _ _ _ _ => e_tupleL (n_tuple T) (e_split (e_var 2 (d := .str p)) e_str rfl (Nat.le_trans (Nat.add_le_add_right (ok.parts p hp) 2) (by decide)))⟩)) (by rw [e0] <;> rfl))
      (ss_cons (s_ifF (t_is (t_not (k := true) (t_val (c_call (h_is_plan T) hr (g_is_plan T) (a_one (e_var 1)) (spF_ok fun H' _ => ⟨_, rfl, ok.plan, rfl⟩)))) rfl)) (ss_one (s_ret (e_var 1)))))
def prePT : Hp → List D → D → Prop := fun _ ds d => ∃ x, ds = [.str x] ∧ TextOk x ∧ d = .bl true
theorem sc_is_plan_text : FnScope ["text"] ["text"] (defScope s_is_plan_text) := ⟨rfl, rfl, rfl, by decide +kernel, rfl, by decide +kernel, by decide +kernel⟩
theorem h_is_plan_text (T : Txt K mg) : Has P w K mg base 4 (atG "is_plan_text" K) ["text"] (spF K prePT) := by
  obtain ⟨fd, F⟩ := f_is_plan_text T
  refine ⟨fd, okF F sc_is_plan_text (fun H ds d h => ?_) (fun H H' ds d _ h => h) fun cdv A outer s H E M ds d hr h => ?_, F.bindsN fun _ _ _ _ _ _ us hl => match us, hl with | [_], _ => rfl, F.kp⟩
  · obtain ⟨x, rfl, _⟩ := h
    rfl
  · obtain ⟨x, rfl, ok, rfl⟩ := h
    exact ⟨.rt (As.same H) _, ⟨fun _ h => h, rfl⟩, ss_cons (ps_try_thru0 (ss_one (s_expr (c_call (h_read_plan T) hr (g_read_plan T) (a_one (e_var 0)) (spF_ok fun H' _ => ⟨x, rfl, ok, rfl⟩))))) (ss_one (s_ret e_bl))⟩
end
end RQ
set_option Elab.async false
set_option linter.all false
set_option maxRecDepth 100000
set_option maxHeartbeats 4000000
namespace L2
open PySem PySem.Spec PyProof.Rows
/-- a tuple that the module has written: it has no attributes of its own -/
def PlainK (K : PySem.W.Frag) (a : Addr) : Prop := ∃ (o : Obj) (its : Array Value) (n : Nat), K.lookup a = some o ∧ o.cls = .type "tuple" ∧ o.dict = none ∧ o.data = .seq its n
section
variable {X : Cx}
theorem pairs_of2 {pins : List (Addr × Obj)} {σ : St} {H : Hp} {s : Shared} (I : Inv X pins σ H s) : ∀ {ps : List Addr} {kvs : List (Key × V)}, Paired (fun p kv => SqT X.K H p [kV kv.1, kv.2]) ps kvs →
    ∃ (prs : List (Key × Value)) (vps : List (Value × Value)), KV kvs prs ∧ prs.length = ps.length ∧ vps.length = ps.length ∧ ∀ (j : Nat) (k v : Value), vps[j]? = some (k, v) → ∃ (b : Addr) (q : Key), ps[j]? = some b ∧ IsTup s.heap b #[k, v] ∧ prs[j]? = some (q, v) ∧ keyIs q k = true
  | _, _, .nil => ⟨[], [], .nil, rfl, rfl, fun j k v e => by simp at e⟩
  | _, _, .cons (a := p) (b := kv) h t => by
    obtain ⟨prs, vps, r, hl, hl2, hp⟩ := pairs_of2 I t
    obtain ⟨its, rv, ht, _⟩ := I.tuple h
    obtain ⟨u, y, ei, ru, ry⟩ := vals2 rv
    subst ei
    refine ⟨(kv.1, y) :: prs, (u, y) :: vps, .cons ⟨rfl, ry⟩ r, by rw [List.length_cons, List.length_cons, hl], by rw [List.length_cons, List.length_cons, hl2], fun j k v e => ?_⟩
    cases j with
    | zero =>
      have e' : (u, y) = (k, v) := Option.some.inj e
      cases e'
      exact ⟨p, kv.1, rfl, ht, rfl, kV_is (P := X.prog) (w := X.w) ru⟩
    | succ j =>
      obtain ⟨b, q, e1, e2, e3, e4⟩ := hp j k v (by simpa using e)
      exact ⟨b, q, by simpa using e1, e2, by simpa using e3, e4⟩
/-- dict(c), c a constant tuple of pairs -/
theorem call_dictC (hcalm : X.calm = true) : CallR X (.type "dict") (fun xs H Q => ∃ (a : Addr) (ps : List Addr) (kvs : List (Key × V)), xs = [.ref a] ∧ PlainK X.K a ∧ SqT X.K H a (ps.map V.ref) ∧ Paired (fun p kv => SqT X.K H p [kV kv.1, kv.2]) ps kvs ∧
    ∀ p, H p = none → Q (.ref p) (upd H p (.dK (mergeK [] kvs)))) := by
  intro pins s σ H xs us Q I r q
  obtain ⟨a, ps, kvs, ex, ⟨o, its0, n, hk, hc, hd, hdat⟩, hq, hp, q⟩ := q
  subst ex
  obtain ⟨u, eu, rx⟩ := vals1 r
  subst eu
  cases rx
  obtain ⟨its, rv, ⟨o2, ho2, _, n2, hd2⟩, hz⟩ := I.tuple hq
  have ei := refs_at rv
  subst ei
  rw [List.length_map] at hz
  have ho := I.kIn a o hk
  have eo : o2 = o := Option.some.inj (ho2.symm.trans ho)
  subst eo
  rw [hdat] at hd2
  cases hd2
  obtain ⟨prs, vps, rel, hl, hl2, hpr⟩ := pairs_of2 I hp
  have hvl : vps.length = prs.length := hl2.trans hl.symm
  refine _root_.PySem.call_dict_pairs (knd := mixKind X.prog X.w) (kvs := prs) (PairArg.tuple a (ps.map Value.ref).toArray (fun j => (ps[j]?).getD 0) vps) (I.ok.hd hcalm)
    ⟨⟨o2, n, ho, hc, hd, hdat⟩, by simp [hl2], fun j k v e => ?_⟩ ⟨hvl.symm, fun i key v e => ?_⟩ (by rw [hl2]; exact hz) fun h' tk hd' k => ?_
  · obtain ⟨b, q', e1, e2, e3, e4⟩ := hpr j k v e
    exact ⟨by simp [e1], by show PairAt s.heap ((ps[j]?).getD 0) k v; rw [e1]; exact .inl e2⟩
  · obtain ⟨b, q', e1, e2, e3, e4⟩ := hpr i key v e
    exact ⟨q', e3, e4⟩
  · have hm : (s.heap.objs.size == sysModules) = false := beq_eq_false_iff_ne.mpr (Nat.ne_of_gt I.big)
    have hlen : (mergeK [] kvs).length ≤ sizeLine := by
      refine Nat.le_trans (length_mergeK kvs []) ?_
      rw [List.length_nil, Nat.zero_add, rel.length, hl]
      exact hz
    exact ⟨.ref s.heap.objs.size, upd H s.heap.objs.size (.dK (mergeK [] kvs)), I.laid (t' := tk) (fun b o e => k b o (by simp) e) (Nat.le_refl _) (show ObjOk X.prog X.w _ _ _ (.dK (mergeK [] kvs)) from ⟨hlen, hm, merged [] prs, KV.merge rel .nil, hd'⟩), rfl, q _ (I.hok.fresh (Nat.le_refl _))⟩
end
end L2
namespace Dx
open PySem PySem.Spec PyProof.Rows L2
section
variable {X : Cx} {M : AS} {A B C G : As} {δ δ' : LS} {p pos : Pos} {e : Expr}
/-- the pairs of a constant tuple of pairs -/
theorem RpL.prs {K : PySem.W.Frag} {M : AS} {H : Hp} : ∀ {es : List (Str × D)} {xs : List V}, RpL K M H xs (es.map fun p => .ktup [.str p.1, p.2]) → (∀ p ∈ es, flatD p.2 = true) → ∃ (ps : List Addr) (kvs : List (Key × V)), xs = ps.map V.ref ∧ Paired (fun p kv => ∀ H', SqT K H' p [kV kv.1, kv.2]) ps kvs ∧ KvR K H kvs es
  | [], xs, h, _ => by
    cases h
    exact ⟨[], [], rfl, .nil, .nil⟩
  | p :: es, xs, h, f => by
    cases h with
    | cons a b =>
      obtain ⟨q, ys, rfl, h1, l1⟩ := a.ktup_inv
      obtain ⟨ps, kvs, rfl, h2, h3⟩ := RpL.prs b fun q hq => f q (List.mem_cons_of_mem _ hq)
      cases l1 with
      | cons r1 l2 => cases l2 with
        | cons r2 l3 =>
          cases l3
          cases r1
          exact ⟨q :: ps, (Sum.inr p.1, _) :: kvs, rfl, .cons h1 h2, .cons (r2.flat (fun _ _ z => z) _ _ (f p (by simp))) (f p (by simp)) h3⟩
theorem KvR.mrg {K : PySem.W.Frag} {H : Hp} : ∀ {kvs acc : List (Key × V)} {es ea : List (Str × D)}, KvR K H kvs es → KvR K H acc ea → KvR K H (mergeK acc kvs) (es.foldl (fun t p => putT t p.1 p.2) ea)
  | _, _, _, _, .nil, h => h
  | _, acc, _, ea, .cons (k := k) (v := v) (d := d) (kvs := kvs) (es := es) r f t, h => by
    show KvR K H (mergeK (putK acc (Sum.inr k) v) kvs) (es.foldl (fun t p => putT t p.1 p.2) (putT ea k d))
    exact KvR.mrg t (h.put r f)
/-- dict(c), c a constant tuple of pairs -/
theorem e_dictC {a : Addr} {es : List (Str × D)} (hc : X.calm = true) (hm : X.mg "dict" = none) (hp : PlainK X.K a) (hv : ∀ M H, Rp X.K M H (.ref a) (.ktup (es.map fun p => .ktup [.str p.1, p.2]))) (hf : ∀ p ∈ es, flatD p.2 = true)
    (h : PE X e (tC X.K M A δ B (.ref a))) (hg : Gl X "dict" := by rfl) (hs : starEach (e :: []) X.env = (false, eval e X.env) :: starEach [] X.env := by rfl) (hpl : (backTo pos (starEach [] X.env)).any (·.1) = false := by rfl) :
    PE X (.Call (.Name "dict" p) [e] [] pos) (tCG X.K M A δ (fun g => B.and (tabA X.K (g 0) (es.foldl (fun t p => putT t p.1 p.2) []))) (fun g => .ref (g 0))) :=
  pe_imp (pe_callTy (call_dictC hc) hg hm (by decide +kernel) (a_one h hs) (by decide) (by decide) hs hpl) fun σ H Q ⟨s, h⟩ => ⟨s, fun vs H1 k1 b1 r1 => by
    cases r1 with
    | cons r1 r2 =>
      cases r2
      cases r1
      obtain ⟨a', xs, e1, h1, l1⟩ := (hv M H1).ktup_inv
      cases e1
      obtain ⟨ps, kvs, rfl, h2, h3⟩ := RpL.prs l1 hf
      exact ⟨a, ps, kvs, rfl, hp, h1 H1, L2.Paired.mapP h2 fun p q z => z H1, fun p hp => h (fun _ => p) _ _ (fun _ => k1.free hp) (k1.trans (.new hp)) ⟨B.mono (Same.new hp) b1, _, upd_same, (h3.fr fun a xs z => Same.new hp a _ z).mrg .nil⟩ (.ref p)⟩⟩
end
end Dx
set_option Elab.async false
set_option linter.all false
set_option maxRecDepth 100000
set_option maxHeartbeats 4000000
namespace Dx
open PySem PySem.Spec PyProof.Rows L2
section
variable {X : Cx} {M : AS} {A B C G : As} {δ δ' : LS} {p p2 pl pt pos : Pos} {a b e : Expr} {x y z d : D}
theorem kit_lt {K : PySem.W.Frag} : PySem.W.kitAny K (.type "list") [.type "list", .type "tuple"] = some true := by
  unfold PySem.W.kitAny PySem.W.kitOne
  rw [if_pos (by decide +kernel)]
/-- isinstance(x, (list, tuple)), x a list -/
theorem e_isiLT {ds : List D} {j} (hm : X.mg "isinstance" = none) (hx : PE X a (tC X.K M A δ B (.lst ds))) (hl : X.mg "list" = none) (ht : X.mg "tuple" = none) (hg : Gl X "isinstance" := by rfl) (hgl : Gl X "list" := by rfl) (hgt : Gl X "tuple" := by rfl)
    (he : starEach (a :: [.Tuple [.Name "list" pl, .Name "tuple" pt] j p2]) X.env = (false, eval a X.env) :: starEach [.Tuple [.Name "list" pl, .Name "tuple" pt] j p2] X.env := by rfl) (he2 : starEach (.Tuple [.Name "list" pl, .Name "tuple" pt] j p2 :: []) X.env = (false, eval (.Tuple [.Name "list" pl, .Name "tuple" pt] j p2) X.env) :: starEach [] X.env := by rfl)
    (he3 : starEach (.Name "list" pl :: [.Name "tuple" pt]) X.env = (false, eval (.Name "list" pl) X.env) :: starEach [.Name "tuple" pt] X.env := by rfl) (he4 : starEach (.Name "tuple" pt :: []) X.env = (false, eval (.Name "tuple" pt) X.env) :: starEach [] X.env := by rfl) (hpl : (backTo pos (starEach [.Tuple [.Name "list" pl, .Name "tuple" pt] j p2] X.env)).any (·.1) = false := by rfl) :
    PE X (.Call (.Name "isinstance" p) [a, .Tuple [.Name "list" pl, .Name "tuple" pt] j p2] [] pos) (tC X.K M A δ B (.bl true)) :=
  pe_imp (pe_callB call_isiT hg hm (by decide +kernel) (pa_cons hx (pa_cons (pe_tup (pa_cons (pe_bltn (v := .ty "list") hgl hl (by decide +kernel) rfl) (pa_cons (pe_bltn (v := .ty "tuple") hgt ht (by decide +kernel) rfl) pa_nil he4) he3)) pa_nil he2) he) (by decide) (by decide) he hpl) fun σ H Q ⟨s, q⟩ => ⟨s, fun v H1 k1 b1 r1 =>
    ⟨by decide, fun t ht => by
      obtain ⟨q0, ys, rfl, h1, m1, l1⟩ := r1.lst_inv
      refine ⟨_, t, _, .type "list", [.type "list", .type "tuple"], true, rfl, upd_same, .cons (.ty _) (.cons (.ty _) .nil), ?_, kit_lt, q _ _ (k1.trans (.new ht)) (B.mono (Same.new ht) b1) (.bl true)⟩
      exact .base (.lst (Same.new ht q0 _ h1))⟩⟩
/-- a text is at most another -/
theorem rd_leS {K : PySem.W.Frag} {i j : Str} : RD K M C (fun x y H Q => ∃ i j, x = .str i ∧ y = .str j ∧ Q (.bl (!decide (j.cps.toList < i.cps.toList))) H) (.str i) (.str j) (.bl (!decide (j.cps.toList < i.cps.toList))) := fun H v u c t r1 r2 Q q => by
  cases r1
  cases r2
  exact ⟨i, j, rfl, rfl, q _ H (Same.refl H) (.bl _)⟩
end
end Dx
set_option Elab.async false
set_option linter.all false
set_option maxRecDepth 100000
set_option maxHeartbeats 4000000
namespace Dx
open PySem PySem.Spec PyProof.Rows L2
section
variable {X : Cx} {M : AS} {A B C G : As} {δ δ' : LS} {p p2 pos : Pos} {a b e tg iter : Expr} {x y z d : D} {items : List D}
/-! a module's tuple: its length, an item, a walk over it, a pair as a target -/
theorem rc_lenK {K : PySem.W.Frag} {ds : List D} : RDc K M C (fun xs H Q => ∃ x n, xs = [x] ∧ LenV K x H n ∧ Q (.int n) H) [.ktup ds] (.int ds.length) := fun H vs c t r Q q => by
  cases r with
  | cons r1 r2 =>
    cases r2
    obtain ⟨a, xs, rfl, h1, l1⟩ := r1.ktup_inv
    exact ⟨_, ds.length, rfl, .inr ⟨xs, h1 H, l1.length.symm⟩, q _ H (Same.refl H) (.int _)⟩
theorem e_lenK {ds : List D} (hm : X.mg "len" = none) (h : PE X e (tC X.K M A δ B (.ktup ds))) (hg : Gl X "len" := by rfl) (hs : starEach (e :: []) X.env = (false, eval e X.env) :: starEach [] X.env := by rfl) (hpl : (backTo pos (starEach [] X.env)).any (·.1) = false := by rfl) : PE X (.Call (.Name "len" p) [e] [] pos) (tC X.K M A δ B (.int ds.length)) :=
  e_callB call_len (a_one h hs) rc_lenK hm PySem.boot_len hg (by decide) (by decide) hs hpl
theorem e_ixK {ds : List D} {i : Int} (ha : PE X a (tC X.K M A δ B (.ktup ds))) (hb : PE X b (tC X.K M B δ C (.int i))) (h : atI ds i = some d) (hs : PlainIx b := by exact fun _ _ => rfl) : PE X (.Subscript a b pos) (tC X.K M A δ C d) :=
  e_ix ix_tup ha hb (fun H v w c t r1 r2 Q q => by
    obtain ⟨p1, xs, rfl, h1, l1⟩ := r1.ktup_inv
    cases r2
    obtain ⟨u, e1, ru⟩ := l1.atI h
    exact ⟨p1, xs, i, u, rfl, rfl, h1 H, e1, q _ H (Same.refl H) ru⟩) hs
theorem i_tupK (h : PE X iter (tC X.K M A δ B (.ktup items))) : PIt X M tg iter A δ B (fun _ => True) items := ⟨_, pi_tup h, fun σ H R s q => ⟨s, fun v H1 k1 b1 r1 => by
  obtain ⟨a, xs, rfl, h1, l1⟩ := r1.ktup_inv
  refine ⟨a, rfl, ⟨xs, h1 H1⟩, q (Itt X.K a) xs.length _ (YAt xs) H1 k1 b1 walk_tup l1.length fun M' hm => ⟨fun H2 k2 _ => h1 H2, fun i H2 x H3 k2 y hi => ?_⟩⟩
  obtain ⟨rfl, hx⟩ := y
  obtain ⟨d, e1, r⟩ := ((l1.more hm).kp k2).getV hx
  exact ⟨Same.refl _, d, e1, r⟩⟩⟩
def fTupK (g : List D → LS → Option LS) : D → LS → Option LS := fun d δ => match d with
  | .ktup ds => g ds δ
  | _ => none
theorem tg_tupK {K : PySem.W.Frag} {n : Nat} {u : TGs} {js : List Nat} {g : List D → LS → Option LS} (h : TgsOk K u js g) (hn : ∀ ds δ δ', g ds δ = some δ' → ds.length = n) : TgOk K (gTup K n u) js (fTupK g) := fun M v d δ δ' σ H Q e r s q => by
  cases d with
  | ktup ds =>
    obtain ⟨a, xs, rfl, h1, l1⟩ := r.ktup_inv
    exact ⟨a, xs, rfl, h1 H, by rw [l1.length]; exact hn ds δ δ' e, h M xs ds δ δ' σ H Q e l1 s q⟩
  | _ => cases e
theorem two_len {f g : D → LS → Option LS} {ds : List D} {δ δ' : LS} (e : fCons f (fCons g fNil) ds δ = some δ') : ds.length = 2 := by
  cases ds with
  | nil => cases e
  | cons d ds => cases ds with
    | nil =>
      have e : (f d δ).bind (fCons g fNil []) = some δ' := e
      cases h : f d δ with
      | none => rw [h] at e; cases e
      | some w => rw [h] at e; cases e
    | cons d' ds => cases ds with
      | nil => rfl
      | cons d'' ds =>
        have e : (f d δ).bind (fCons g fNil (d' :: d'' :: ds)) = some δ' := e
        cases h : f d δ with
        | none => rw [h] at e; cases e
        | some w =>
          rw [h] at e
          have e : (g d' w).bind (fNil (d'' :: ds)) = some δ' := e
          cases h2 : g d' w with
          | none => rw [h2] at e; cases e
          | some w2 => rw [h2] at e; cases e
theorem three_len {f g k : D → LS → Option LS} {ds : List D} {δ δ' : LS} (e : fCons f (fCons g (fCons k fNil)) ds δ = some δ') : ds.length = 3 := by
  cases ds with
  | nil => cases e
  | cons d ds =>
    have e : (f d δ).bind (fCons g (fCons k fNil) ds) = some δ' := e
    cases h : f d δ with
    | none => rw [h] at e; cases e
    | some w =>
      rw [h] at e
      have := two_len (δ := w) e
      simp [this]
theorem tg_pairK {K : PySem.W.Frag} (i j : Nat) : TgOk K (gTup K 2 (gCons (gName i) (gCons (gName j) gNil))) ([i] ++ ([j] ++ [])) (fTupK (fCons (fOne i) (fCons (fOne j) fNil))) :=
  tg_tupK (tgs_cons (tg_name i) (tgs_cons (tg_name j) tgs_nil)) fun ds δ δ' e => two_len e
theorem tg_tri {K : PySem.W.Frag} (i j k : Nat) : TgOk K (gTup K 3 (gCons (gName i) (gCons (gName j) (gCons (gName k) gNil)))) ([i] ++ ([j] ++ ([k] ++ []))) (fTup (fCons (fOne i) (fCons (fOne j) (fCons (fOne k) fNil)))) :=
  tg_tup (tgs_cons (tg_name i) (tgs_cons (tg_name j) (tgs_cons (tg_name k) tgs_nil))) fun ds δ δ' e => three_len e
/-- the new things were free before -/
theorem g_free (H0 : Hp) {Bg : Gh → As} {dg : Gh → D} (h : PE X e (tCG X.K M A δ Bg dg)) (hA : ∀ H a, A.p H → H a = none → H0 a = none) : PE X e (tCG X.K M A δ (fun g => (Bg g).and (As.pure (∀ i, H0 (g i) = none))) dg) :=
  pe_imp h fun σ H Q ⟨s, q⟩ => ⟨s, fun g v H' n k b r => q g v H' n k ⟨b, fun i => hA H _ s.a (n i)⟩ r⟩
theorem mv_putN {S : List Addr} {H0 H : Hp} {q : Addr} {u : HO} (m : Mv S H0 H) (hq : H0 q = none) (f : Fr (fun a => a ≠ q) H (upd H q u)) : Mv S H0 (upd H q u) := ⟨fun a o h n => f.keep a o (fun z => by rw [z, hq] at h; cases h) (m.keep a o h n), fun a xs h => f.tup a xs (m.tup a xs h), fun a h => f.trk a (m.trk a h)⟩
end
theorem foldPut_nodup : ∀ (bs es : List (Str × D)), (es.map (·.1) ++ bs.map (·.1)).Nodup → bs.foldl (fun t p => putT t p.1 p.2) es = es ++ bs
  | [], es, _ => by simp
  | b :: bs, es, h => by
    have hk : b.1 ∉ es.map (·.1) := fun z => (List.nodup_append.mp h).2.2 _ z _ (by simp) rfl
    show bs.foldl _ (putT es b.1 b.2) = _
    have e1 : putT es b.1 b.2 = es ++ [b] := by
      unfold putT
      rw [if_neg]
      intro z
      obtain ⟨v, e⟩ := Option.isSome_iff_exists.mp z
      exact hk (List.mem_map.mpr ⟨_, RQ.lookup_mem e, rfl⟩)
    rw [e1, foldPut_nodup bs]
    · rw [List.append_assoc] <;> rfl
    · rw [List.map_append, List.append_assoc]
      exact h
end Dx
set_option Elab.async false
set_option linter.all false
set_option maxRecDepth 100000
set_option maxHeartbeats 4000000
namespace RQ
open PySem PySem.Spec PyProof.Rows L2 Dx
/-! ### the lines of a setting -/
def valT : List (Str × D) := valuesL.map fun p => (p.1, ks p.2)
theorem valT_nodup : (valT.map (·.1)).Nodup := by decide +kernel
theorem valT_fold : valT.foldl (fun t p => putT t p.1 p.2) [] = valT := foldPut_nodup valT [] (by rw [List.map_nil, List.nil_append]; exact valT_nodup)
theorem valT_flat : ∀ p ∈ valT, flatD p.2 = true := fun p h => by
  obtain ⟨q, _, rfl⟩ := List.mem_map.mp h
  exact flatL_strs q.2
theorem valT_get {w : Str} {vs : List Str} (h : valuesL.lookup w = some vs) : valT.lookup w = some (ks vs) := by
  have key : ∀ l : List (Str × List Str), l.lookup w = some vs → (l.map fun p => (p.1, ks p.2)).lookup w = some (ks vs) := by
    intro l
    induction l with
    | nil => intro h; cases h
    | cons p l ih =>
      intro h
      rw [List.lookup_cons] at h
      rw [List.map_cons, List.lookup_cons]
      cases hb : w == p.1 with
      | true =>
        rw [hb] at h
        cases h
        rfl
      | false =>
        rw [hb] at h
        exact ih h
  exact key _ h
def digs : List Str := ["0", "1", "2", "3"]
def pauseB (x : Str) : Bool := decide (x.length ≤ 1000) && match Txt.split x " " with
  | [a] => decide (a ∈ digs)
  | [a, b] => decide (a ∈ digs) && decide (b ∈ digs) && !decide (b.cps.toList < a.cps.toList)
  | _ => false
inductive ValOk : Str → Str → Prop
  | plan {x : Str} (h : TextOk x) : ValOk "plan" x
  | pause {x : Str} (h : pauseB x = true) : ValOk "pause" x
  | other {w x : Str} {vs : List Str} (hl : valuesL.lookup w = some vs) (h1 : w ≠ "plan") (h2 : w ≠ "pause") (hx : x ∈ vs) : ValOk w x
structure LineOk (l w x : Str) : Prop where
  cut : Txt.partition l " " = (w, ((" " : Str), x))
  len : l.length ≤ 2000
  ok : ValOk w x
section
variable {P : Program} {w : World} {K : PySem.W.Frag} {mg : Str → Option Value} {base : Heap}
def preVal : Hp → List D → D → Prop := fun _ ds d => ∃ w x, ds = [.str w, .str x] ∧ ValOk w x ∧ d = .bl true
theorem sc_is_value : FnScope ["word", "text", "values", "numbers", "number"] ["word", "text"] (defScope s_is_value) := ⟨rfl, rfl, rfl, by decide +kernel, rfl, by decide +kernel, by decide +kernel⟩
theorem e_values (T : Txt K mg) {X : Cx} (hK : X.K = K) (hmg : X.mg = mg) (hc : X.calm = true) (hu : X.A.units + 1 < cLine) {M : AS} {A : As} {δ : LS} {p p2 p3 apos cpos : Pos} {e f : Expr} {w : Str} (hk : ∀ R : As, PE X e (tC X.K M (A.and R) δ (A.and R) (.str w))) (hf : ∀ R : As, PE X f (tC X.K M (A.and R) δ (A.and R) (.tup [])))
    (m : M2 X (.Call (.Name "dict" p) [.Name "VALUES" p2] [] p3) "get" apos e f cpos) (hg : Gl X "VALUES" := by rfl) (hg2 : Gl X "dict" := by rfl) (hs : starEach ((.Name "VALUES" p2) :: []) X.env = (false, eval (.Name "VALUES" p2) X.env) :: starEach [] X.env := by rfl) (hpl : (backTo p3 (starEach [] X.env)).any (·.1) = false := by rfl) :
    PE X (.Call (.Attribute (.Call (.Name "dict" p) [.Name "VALUES" p2] [] p3) "get" apos) [e, f] [] cpos) (tC X.K M A δ A ((valT.lookup w).getD (.tup []))) := by
  subst hK
  subst hmg
  have h0 := e_dictC (M := M) (A := A) (B := A) (δ := δ) (p := p) (pos := p3) (a := atG "VALUES" X.K) (es := valT) hc (n_dict T) (p_VALUES T) (fun M H => by
    have := k_VALUES T M H
    unfold valuesD at this
    unfold valT
    rw [List.map_map]
    exact this) valT_flat (e_glob (pos := p2) (v := .ref (atG "VALUES" X.K)) (d := .ref (atG "VALUES" X.K)) (g_VALUES T) rfl (fun _ => .ref _) hg) hg2 hs hpl
  rw [valT_fold] at h0
  exact e_ggetD hu h0 hk hf m
theorem h_is_value (T : Txt K mg) : Has P w K mg base 5 (atG "is_value" K) ["word", "text"] (spF K preVal) := by
  obtain ⟨fd, F⟩ := f_is_value T
  refine ⟨fd, okF F sc_is_value (fun H ds d h => ?_) (fun H H' ds d _ h => h) fun cdv A outer s H E M ds d hr h => ?_, F.bindsN fun _ _ _ _ _ _ us hl => match us, hl with | [_, _], _ => rfl, F.kp⟩
  · obtain ⟨w, x, rfl, _⟩ := h
    rfl
  · obtain ⟨w, x, rfl, hv, rfl⟩ := h
    refine ⟨.rt (As.same H) _, ⟨fun _ h => h, rfl⟩, ss_cons (s_set 2 sc_is_value.nd (e_values T rfl rfl rfl (hu_of hr) (fun R => e_var 0) (fun R => e_tup a_nil) ⟨rfl, rfl, rfl, rfl⟩)) ?_⟩
    cases hv with
    | plan h => exact ss_if (k := true) (t_eqS (e_var 0 (d := .str "plan")) e_str) (fun _ => ss_one (s_ret (c_call (h_is_plan_text T) hr (g_is_plan_text T) (a_one (e_var 1)) (spF_ok fun H' _ => ⟨_, rfl, h, rfl⟩)))) fun h => by cases h
    | pause h =>
      refine ss_if (k := false) (t_is (t_eqS (e_var 0 (d := .str "pause")) e_str) (by decide +kernel)) (fun h => by cases h) fun _ => ss_if (k := true) (t_is (t_eqS (e_var 0 (d := .str "pause")) e_str) (by decide +kernel)) (fun _ => ?_) fun h => by cases h
      obtain ⟨hz, h⟩ := Bool.and_eq_true_iff.mp h
      have hz := of_decide_eq_true hz
      have ev : (valT.lookup ("pause" : Str)).getD (.tup []) = ks digs := by rw [valT_get (w := "pause") (vs := digs) (by decide +kernel)] <;> rfl
      have hmem : ∀ y ∈ Txt.split x " ", y ∈ digs := by
        split at h
        · rename_i a e
          rw [e]
          intro y hy
          rw [List.mem_singleton.mp hy]
          exact of_decide_eq_true h
        · rename_i a b e
          obtain ⟨h, _⟩ := Bool.and_eq_true_iff.mp h
          obtain ⟨h1, h2⟩ := Bool.and_eq_true_iff.mp h
          rw [e]
          intro y hy
          rcases List.mem_cons.mp hy with z | z
          · rw [z]; exact of_decide_eq_true h1
          · rw [List.mem_singleton.mp z]; exact of_decide_eq_true h2
        · cases h
      have hends : ∃ a b : Str, atI ((Txt.split x " ").map D.str) 0 = some (.str a) ∧ atI ((Txt.split x " ").map D.str) (-1) = some (.str b) ∧ (!decide (b.cps.toList < a.cps.toList)) = true ∧ (Txt.split x " ").length < 3 := by
        split at h
        · rename_i a e
          rw [e]
          exact ⟨a, a, rfl, rfl, by rw [decide_eq_false (List.lt_irrefl _)] <;> rfl, by show 1 < 3; decide⟩
        · rename_i a b e
          rw [e]
          exact ⟨a, b, rfl, rfl, (Bool.and_eq_true_iff.mp h).2, by show 2 < 3; decide⟩
        · cases h
      obtain ⟨a, b, ea, eb, hle, hlen⟩ := hends
      refine ss_cons (s_set 3 sc_is_value.nd (e_split (e_var 1) e_str rfl (Nat.le_trans (Nat.add_le_add_right hz 2) (by decide)))) (ss_one (s_ret (e_and (B := As.same H) (k := true) (e_is (e_lt (e_lenL (n_len T) (e_var 3)) e_int) ?c1) (fun _ => e_and (B := As.same H) (k := true)
        (e_is (e_callB (cr_all rfl) (a_one (e_is (d' := .lst (((Txt.split x " ").map fun _ => true).map D.bl)) (e_lcM (own := [("number", 4)]) (g := gName 4) (js := [4]) (f := fOne 4) (items := (Txt.split x " ").map D.str) (fun _ => .bl true) rfl sc_is_value.nd (blkOk_by (N := ["word", "text", "values", "numbers", "number"]) (sc := defScope s_is_value) (by decide +kernel)) (i_list (e_var 3)) (fun _ _ => trivial) (fun _ _ _ _ _ => pg_name (i := 4) sc_is_value.nd rfl (Or.inl rfl)) (tg_name 4) (fun _ h => h) ?z1 (fun M' _ _ d hd => ?tt)) ?e1)) rc_all (n_all T)) (by rw [all_true]))
        (fun _ => e_one (e_is (e_cmp op_le_str (e_ixL (e_var 3) e_int ea) (e_ixL (e_var 3) (e_neg e_int) eb) rd_leS) (by rw [hle]))) fun h => by cases h) fun h => by cases h)))
      case c1 =>
        refine congrArg D.bl (decide_eq_true ?_)
        rw [List.length_map]
        omega
      case z1 =>
        rw [List.length_map]
        exact Nat.lt_trans hlen (by decide)
      case e1 => rw [List.map_map, List.map_map] <;> rfl
      case tt =>
        obtain ⟨y, hy, rfl⟩ := List.mem_map.mp hd
        exact ⟨_, rfl, fun _ _ _ _ _ => e_is (e_cmp op_in_seq (e_var 4 (d := .str y)) (e_is (e_var 2) ev) (rd_inK (xs := digs))) (by rw [decide_eq_true (hmem y hy)])⟩
    | other hl h1 h2 hx =>
      exact ss_if (k := false) (t_is (t_eqS (e_var 0) e_str) (decide_eq_false h1)) (fun h => by cases h) fun _ => ss_if (k := false) (t_is (t_eqS (e_var 0) e_str) (decide_eq_false h2)) (fun h => by cases h) fun _ =>
        ss_one (s_ret (e_is (e_cmp op_in_seq (e_var 1) (e_is (e_var 2) (by rw [valT_get hl] <;> rfl)) (rd_inK)) (by rw [decide_eq_true hx])))
/-! ### is_line, word_of, first_bad -/
def preLine : Hp → List D → D → Prop := fun _ ds d => ∃ l w x, ds = [.str l] ∧ LineOk l w x ∧ d = .bl true
theorem sc_is_line : FnScope ["thing", "word", "blank", "text"] ["thing"] (defScope s_is_line) := ⟨rfl, rfl, rfl, by decide +kernel, rfl, by decide +kernel, by decide +kernel⟩
theorem LineOk.cutD {l w x : Str} (h : LineOk l w x) : D.tup [.str (Txt.partition l " ").1, .str (Txt.partition l " ").2.1, .str (Txt.partition l " ").2.2] = D.tup [.str w, .str " ", .str x] := by rw [h.cut]
theorem LineOk.z {l w x : Str} (h : LineOk l w x) : l.length ≤ sizeLine := Nat.le_trans h.len (by decide)
theorem h_is_line (T : Txt K mg) : Has P w K mg base 6 (atG "is_line" K) ["thing"] (spF K preLine) := by
  obtain ⟨fd, F⟩ := f_is_line T
  refine ⟨fd, okF F sc_is_line (fun H ds d h => ?_) (fun H H' ds d _ h => h) fun cdv A outer s H E M ds d hr h => ?_, F.bindsN fun _ _ _ _ _ _ us hl => match us, hl with | [_], _ => rfl, F.kp⟩
  · obtain ⟨l, w, x, rfl, _⟩ := h
    rfl
  · obtain ⟨l, w, x, rfl, hl, rfl⟩ := h
    exact ⟨.rt (As.same H) _, ⟨fun _ h => h, rfl⟩, ss_cons (s_ifF (t_is (t_not (k := true) (t_val (e_isi "str" (n_isinstance T) (e_var 0) (n_str T) (.str l)))) rfl))
      (ss_cons (s_asg (δ' := [some (.str l), some (.str w), some (.str " "), some (.str x)]) (e_is (e_partition (e_var 0) e_str rfl hl.z) hl.cutD) (pg_tup rfl (pgs_cons (pg_name (i := 1) sc_is_line.nd rfl (Or.inl rfl)) (pgs_cons (pg_name (i := 2) sc_is_line.nd rfl (Or.inl rfl)) (pgs_cons (pg_name (i := 3) sc_is_line.nd rfl (Or.inl rfl)) pgs_nil)))) (tg_tri 1 2 3) rfl)
      (ss_one (s_ret (e_and2 (k := true) (j := true) (e_eqS (e_var 2 (d := .str " ")) e_str) fun _ => c_call (h_is_value T) hr (g_is_value T) (a_cons (e_var 1) (a_one (e_var 3))) (spF_ok fun H' _ => ⟨w, x, rfl, hl.ok, rfl⟩)))))⟩
def preWof : Hp → List D → D → Prop := fun _ ds d => ∃ l w x, ds = [.str l] ∧ LineOk l w x ∧ d = .str w
theorem sc_word_of : FnScope ["line"] ["line"] (defScope s_word_of) := ⟨rfl, rfl, rfl, by decide +kernel, rfl, by decide +kernel, by decide +kernel⟩
theorem h_word_of (T : Txt K mg) : Has P w K mg base 1 (atG "word_of" K) ["line"] (spF K preWof) := by
  obtain ⟨fd, F⟩ := f_word_of T
  refine ⟨fd, okF F sc_word_of (fun H ds d h => ?_) (fun H H' ds d _ h => h) fun cdv A outer s H E M ds d hr h => ?_, F.bindsN fun _ _ _ _ _ _ us hl => match us, hl with | [_], _ => rfl, F.kp⟩
  · obtain ⟨l, w, x, rfl, _⟩ := h
    rfl
  · obtain ⟨l, w, x, rfl, hl, rfl⟩ := h
    exact ⟨.rt (As.same H) _, ⟨fun _ h => h, rfl⟩, ss_one (s_ret (e_ixT (e_is (e_partition (e_var 0) e_str rfl hl.z) hl.cutD) e_int rfl))⟩
end
end RQ
set_option Elab.async false
set_option linter.all false
set_option maxRecDepth 100000
set_option maxHeartbeats 4000000
namespace Dx
open PySem PySem.Spec PyProof.Rows L2
def idxG {α : Type} : Nat → List α → List (Nat × α)
  | _, [] => []
  | i, p :: ps => (i, p) :: idxG (i + 1) ps
def encG {α : Type} (f : α → D) (x : Nat × α) : D := .tup [.int (x.1 : Nat), f x.2]
theorem enum_idxG {α : Type} (f : α → D) : ∀ (i : Nat) (es : List α), enumD i (es.map f) = (idxG i es).map (encG f)
  | _, [] => rfl
  | i, p :: ps => congrArg (encG f (i, p) :: ·) (enum_idxG f (i + 1) ps)
theorem idxG_len {α : Type} : ∀ (i : Nat) (es : List α), (idxG i es).length = es.length
  | _, [] => rfl
  | i, p :: ps => congrArg (· + 1) (idxG_len (i + 1) ps)
theorem idxG_get {α : Type} : ∀ {i : Nat} {es : List α} {k : Nat} {x : Nat × α}, (idxG i es)[k]? = some x → es[k]? = some x.2
  | _, [], _, _, h => by simp [idxG] at h
  | i, p :: ps, 0, x, h => by
    simp [idxG] at h
    subst h
    rfl
  | i, p :: ps, k + 1, x, h => by
    have := idxG_get (i := i + 1) (es := ps) (k := k) (by simpa [idxG] using h)
    simpa using this
/-- a text in a list of texts that is being made -/
theorem rd_inO {K : PySem.W.Frag} {M : AS} {C : As} {q : Addr} {w : Str} {xs : List Str} (h : ∀ H, C.p H → (lstA K q (xs.map D.str)).p H) : RD K M C (rIn K false) (.str w) (.ref q) (.bl (decide (w ∈ xs))) := fun H v u c t r1 r2 Q q' => by
  cases r1
  have r2 := r2.ref_inv
  subst r2
  obtain ⟨_, ys, h1, l1⟩ := h H c
  rw [l1.strs_inv] at h1
  exact ⟨q, _, rfl, .inl (SqL.of h1), rfl, flat_strs xs, by rw [inV_strs]; exact q' _ H (Same.refl H) (.bl _)⟩
end Dx
namespace RQ
open PySem PySem.Spec PyProof.Rows L2 Dx
abbrev LTr := Str × Str × Str
def lineD (l : LTr) : D := .str l.1
section
variable {P : Program} {w : World} {K : PySem.W.Frag} {mg : Str → Option Value} {base : Heap}
structure LinesOk (ls : List LTr) : Prop where
  ok : ∀ l ∈ ls, LineOk l.1 l.2.1 l.2.2
  nd : (ls.map (·.2.1)).Nodup
  len : ls.length ≤ 12
def preFB : Hp → List D → D → Prop := fun _ ds d => ∃ ls : List LTr, ds = [.lst (ls.map lineD)] ∧ LinesOk ls ∧ d = .non
theorem sc_first_bad : FnScope ["lines", "met", "at", "line"] ["lines"] (defScope s_first_bad) := ⟨rfl, rfl, rfl, by decide +kernel, rfl, by decide +kernel, by decide +kernel⟩
theorem h_first_bad (T : Txt K mg) : Has P w K mg base 7 (atG "first_bad" K) ["lines"] (spF K preFB) := by
  obtain ⟨fd, F⟩ := f_first_bad T
  refine ⟨fd, okF F sc_first_bad (fun H ds d h => ?_) (fun H H' ds d _ h => h) fun cdv A outer s H E M ds d hr h => ?_, F.bindsN fun _ _ _ _ _ _ us hl => match us, hl with | [_], _ => rfl, F.kp⟩
  · obtain ⟨ls, rfl, _⟩ := h
    rfl
  · obtain ⟨ls, rfl, hl, rfl⟩ := h
    refine ⟨.rt (As.same H) _, ⟨fun _ h => h, rfl⟩, ss_new 1 (fun q => .rt ((As.same H).and (lstA K q (((idxG 0 ls).foldl (fun s b => s ++ [b.2.2.1]) []).map D.str))) .non) sc_first_bad.nd (n_lst a_nil) rfl fun q nM nL => ⟨?_, .rtD fun _ h => h.1⟩⟩
    refine ss_cons (s_forF (fun b s => s ++ [b.2.2.1]) (encG lineD) (fun s => (As.same H).and (lstA K q (s.map D.str))) (fun _ => [some (.lst (ls.map lineD)), some (.ref q), none, none]) (fun i s => s = (ls.take i).map (·.2.1)) (idxG 0 ls) [] PassesOwn.never rfl
      ?hit (fun _ _ _ => trivial) rfl rfl (pg_tup rfl (pgs_cons (pg_name (i := 2) sc_first_bad.nd rfl (Or.inl rfl)) (pgs_cons (pg_name (i := 3) sc_first_bad.nd rfl (Or.inl rfl)) pgs_nil))) (tg_pair 2 3) fun i b ss hb hP => ?turn) (ss_one (s_ret e_non))
    case hit =>
      rw [← enum_idxG]
      exact i_enum (n_enumerate T) (e_var 0)
    have hb2 := idxG_get hb
    have hmem : b.2 ∈ ls := List.mem_of_getElem? hb2
    have hlt : i < ls.length := (List.getElem?_eq_some_iff.mp hb2).1
    have hok := hl.ok _ hmem
    have hnot : b.2.2.1 ∉ ss := fun z => by
      rw [hP] at z
      obtain ⟨l', h1, h2⟩ := List.mem_map.mp z
      obtain ⟨j, hj, e1⟩ := List.getElem_of_mem h1
      rw [List.getElem_take] at e1
      rw [List.length_take] at hj
      have hj2 : j < ls.length := by omega
      have n := List.pairwise_iff_getElem.mp hl.nd j i (by rw [List.length_map]; exact hj2) (by rw [List.length_map]; exact hlt) (by omega)
      have e2 : (ls.map (·.2.1))[j]'(by rw [List.length_map]; exact hj2) = (ls.map (·.2.1))[i]'(by rw [List.length_map]; exact hlt) := by
        rw [List.getElem_map, List.getElem_map, e1, h2, (List.getElem?_eq_some_iff.mp hb2).2]
      exact n e2
    refine ⟨_, rfl, by rw [hP, List.take_succ, hb2, List.map_append] <;> rfl, ?_⟩
    have em : (ss ++ [b.2.2.1]).map D.str = ss.map D.str ++ [.str b.2.2.1] := by rw [List.map_append] <;> rfl
    rw [em]
    refine ss_forget 2 (ss_forget 3 (ss_cons (s_ifF (t_is (t_or (k := false) (j := false) (t_not (k := true) (t_val (c_call (h_is_line T) hr (g_is_line T) (a_one (e_var 3 (d := .str b.2.1))) (spF_ok fun H' _ => ⟨_, _, _, rfl, hok, rfl⟩)))) fun _ => t_is (t_cmp op_in_seq (c_call (h_word_of T) (hr.mono (by decide)) (g_word_of T) (a_one (e_var 3 (d := .str b.2.1))) (spF_ok fun H' _ => ⟨_, _, _, rfl, hok, rfl⟩)) (e_var 1) (rd_inO fun _ h => h.2)) (decide_eq_false hnot)) rfl))
      (ss_one (s_oapp (e_var 1) (c_call (h_word_of T) (hr.mono (by decide)) (g_word_of T) (a_one (e_var 3 (d := .str b.2.1))) (spF_ok fun H' _ => ⟨_, _, _, rfl, hok, rfl⟩)) (.inr rfl) (fun _ h => h.2) (fun _ h => h.2) rfl ?z fun H' xs ys b' e l => ⟨(As.same H).stab e nL b'.1, l⟩))))
    rw [List.length_map, hP, List.length_map, List.length_take]
    exact Nat.lt_of_le_of_lt (Nat.le_trans (Nat.min_le_right _ _) hl.len) (by decide)
/-! ### Setting.__init__ -/
def defT : List (Str × D) := valuesL.map fun p => (p.1, .str (p.2.headD Str.empty))
def textsT (ls : List LTr) : List (Str × D) := ls.foldl (fun t l => putT t l.2.1 (.str l.2.2)) defT
abbrev seO (K : PySem.W.Frag) (a t : Addr) : As := insA K a (atG "Setting" K) [("texts", .ref t)]
def preSI (K : PySem.W.Frag) : AS → Hp → List D → List Addr → (Gh → As) → (Gh → D) → Prop := fun M H ds Sx C d => ∃ (a : Addr) (ls : List LTr), ds = [.ref a, .lst (ls.map lineD)] ∧ (insA K a (atG "Setting" K) []).p H ∧ LinesOk ls ∧ Sx = [a] ∧ C = (fun g => (seO K a (g 0)).and (tabA K (g 0) (textsT ls))) ∧ d = fun _ => .non
theorem sc_SI : FnScope ["self", "lines", "at", "line", "word", "blank", "text", "values"] ["self", "lines"] (defScope s_Setting_init) := ⟨rfl, rfl, rfl, by decide +kernel, rfl, by decide +kernel, by decide +kernel⟩
def kfV : D → Str
  | .ktup (.str k :: _) => k
  | _ => Str.empty
def vfV : D → D
  | .ktup [_, .ktup (d :: _)] => d
  | _ => .non
def encV (p : Str × List Str) : D := .ktup [.str p.1, ks p.2]
theorem mkT_def : mkT kfV vfV (valuesL.map encV) = defT := by
  unfold mkT
  rw [mkT_nodup kfV vfV encV valuesL [] (by decide +kernel)]
  rfl
theorem h_Setting_init (T : Txt K mg) : Has P w K mg base 8 (atM "Setting" "__init__" K) ["self", "lines"] (spWG K (preSI K)) := by
  obtain ⟨fd, F⟩ := f_Setting_init T
  have hbind : Binds K fd ["self", "lines"] [] := by
    obtain ⟨ds0, hv, hb⟩ := F.binds1 (ps := ["self", "lines"]) 2 1 (by simp) rfl fun T kV doc pm an cdv ct us its hu hi => match us, hu, its, hi with
      | [_, _], _, [_], _ => ⟨_, rfl, rfl⟩
    cases hv
    exact hb
  refine ⟨fd, okWG F sc_SI (fun M H ds Sx C d h => ?_) fun cdv A outer s H E M ds Sx C d hr tr h => ?_, hbind, F.kp⟩
  · obtain ⟨_, _, rfl, _⟩ := h
    rfl
  · obtain ⟨a, ls, rfl, hi, hl, rfl, rfl, rfl⟩ := h
    refine ⟨(As.mv [a] H).and (insA K a (atG "Setting" K) []), .all fun g => .nx ((As.mv [a] H).and (((seO K a (g 0)).and (tabA K (g 0) (textsT ls))).and (As.pure (∀ i, H (g i) = none)))) [some (.ref a), some (.lst (ls.map lineD)), some .non, none, none, none, none, none], ⟨.refl H, hi⟩, fun g n H' b => ⟨g, n, b.1, b.2.1, rfl⟩, ?_⟩
    have hv : valuesD = .ktup (valuesL.map encV) := rfl
    refine ss_cons (s_ifF (t_is (t_or (k := false) (j := false) (t_not (k := true) (t_val (e_isiLT (n_isinstance T) (e_var 1) (n_list T) (n_tuple T)))) fun _ => t_is (t_gt (e_lenL (n_len T) (e_var 1)) (e_lenK (n_len T) (e_glob (v := .ref (atG "VALUES" K)) (g_VALUES T) rfl (fun H => k_VALUES T _ H)))) ?c0) rfl))
      (ss_cons (s_set 2 sc_SI.nd (c_call (h_first_bad T) hr (g_first_bad T) (a_one (e_var 1)) (spF_ok fun H' _ => ⟨ls, rfl, hl, rfl⟩)))
      (ss_cons (s_ifF (t_is (t_notN (k := true) (e_var 2) (fun K H v r => by cases r; rfl)) rfl))
      (ss_consGo id (s_putFG (es := []) (Bg := fun g => (((As.mv [a] H).and (insA K a (atG "Setting" K) [])).and (tabA K (g 0) defT)).and (As.pure (∀ i, H (g i) = none))) (Es := fun g => (As.mv [a] H).and (((seO K a (g 0)).and (tabA K (g 0) defT)).and (As.pure (∀ i, H (g i) = none)))) (dg := fun g => .ref (g 0)) (cl_Setting T) (na_Setting_texts T) (g_free H ?dcomp (mv_free (A := (As.mv [a] H).and (insA K a (atG "Setting" K) [])) fun _ b => b.1)) (fun g => e_var 0) (fun g H' b => b.1.1.2) (fun _ => rfl) (by show 0 < 1000; decide)
        (fun g H' u b i f => ⟨mv_put b.1.1.1 (List.mem_singleton.mpr rfl) f, ⟨i, (tabA K (g 0) defT).fr (f.less fun x (l : x = g 0) z => ins_tab_ne b.1.1.2 b.1.2 (l.symm.trans z)) b.1.2⟩, b.2⟩)) fun g => ?loop)))
    case c0 =>
      refine decide_eq_false ?_
      have := hl.len
      rw [List.length_map, List.length_map]
      have h12 : valuesL.length = 12 := rfl
      omega
    case dcomp =>
      rw [← mkT_def]
      exact g_dc (own := [("word", 4), ("values", 7)]) kfV vfV rfl sc_SI.nd (blkOk_by (N := ["self", "lines", "at", "line", "word", "blank", "text", "values"]) (sc := defScope s_Setting_init) (by decide +kernel)) (i_tupK (e_is (e_glob (v := .ref (atG "VALUES" K)) (g_VALUES T) rfl (fun H => k_VALUES T _ H)) hv)) (fun _ _ => trivial) (fun _ _ _ _ _ => pg_tup rfl (pgs_cons (pg_name (i := 4) sc_SI.nd rfl (Or.inl rfl)) (pgs_cons (pg_name (i := 7) sc_SI.nd rfl (Or.inl rfl)) pgs_nil))) (tg_pairK 4 7) (by simp) (by rw [List.length_map]; decide) fun R d hd => by
        obtain ⟨p, hp, rfl⟩ := List.mem_map.mp hd
        have hne : ∃ x xs, p.2 = x :: xs := by
          have : ∀ p ∈ valuesL, p.2 ≠ [] := by decide +kernel
          cases e : p.2 with
          | nil => exact absurd e (this p hp)
          | cons x xs => exact ⟨x, xs, rfl⟩
        obtain ⟨w, vs⟩ := p
        obtain ⟨x, xs, e⟩ := hne
        have e : vs = x :: xs := e
        subst e
        exact ⟨_, rfl, rfl, fun _ _ _ _ _ => e_var 4, fun _ _ _ _ _ => e_ixK (e_var 7 (d := ks (x :: xs))) e_int (atI_nat (j := 0) rfl)⟩
    case loop =>
      refine ss_one (s_forF (fun l t => putT t l.2.1 (.str l.2.2)) lineD (fun t => (As.mv [a] H).and (((seO K a (g 0)).and (tabA K (g 0) t)).and (As.pure (∀ i, H (g i) = none)))) (fun _ => [some (.ref a), some (.lst (ls.map lineD)), some .non, none, none, none, none, none]) (fun i t => t.length ≤ 12 + i) ls defT PassesOwn.never rfl
        (i_list (e_var 1)) (fun _ _ _ => trivial) rfl (by decide +kernel) (pg_name (i := 3) sc_SI.nd rfl (Or.inl rfl)) (tg_name 3) fun i l t hb hP => ⟨_, rfl, Nat.le_trans (putT_len _ _ _) (Nat.succ_le_succ hP), ?turn⟩)
      have hmem : l ∈ ls := List.mem_of_getElem? hb
      have hok := hl.ok l hmem
      have hi2 := (List.getElem?_eq_some_iff.mp hb).1
      refine ss_forget 3 (ss_forget 4 (ss_forget 5 (ss_forget 6 (ss_cons (s_asg (δ' := [some (.ref a), some (.lst (ls.map lineD)), some .non, some (.str l.1), some (.str l.2.1), some (.str " "), some (.str l.2.2), none]) (e_is (e_partition (e_var 3 (d := .str l.1)) e_str rfl hok.z) hok.cutD) (pg_tup rfl (pgs_cons (pg_name (i := 4) sc_SI.nd rfl (Or.inl rfl)) (pgs_cons (pg_name (i := 5) sc_SI.nd rfl (Or.inl rfl)) (pgs_cons (pg_name (i := 6) sc_SI.nd rfl (Or.inl rfl)) pgs_nil)))) (tg_tri 4 5 6) rfl)
        (ss_one (s_tput (B := ((As.mv [a] H).and (((seO K a (g 0)).and (tabA K (g 0) t)).and (As.pure (∀ i, H (g i) = none))))) (C := ((As.mv [a] H).and (((seO K a (g 0)).and (tabA K (g 0) t)).and (As.pure (∀ i, H (g i) = none))))) (G := ((As.mv [a] H).and (((seO K a (g 0)).and (tabA K (g 0) t)).and (As.pure (∀ i, H (g i) = none))))) (hu_of hr) (e_var 6) (e_getF (cl_Setting T) (na_Setting_texts T) (e_var 0) (fun H' b => b.2.1.1) rfl) (e_var 4) (fun H' b => b.2.1.2) rfl (Nat.lt_of_le_of_lt hP (Nat.lt_of_le_of_lt (Nat.add_le_add_left (Nat.le_of_lt (Nat.lt_of_lt_of_le hi2 hl.len)) 12) (by decide)))
          fun H' u b i f => ⟨mv_putN b.1 (b.2.2 0) f, ⟨(seO K a (g 0)).fr (f.less fun x (l : x = a) z => ins_tab_ne b.2.1.1 b.2.1.2 (z.symm.trans l)) b.2.1.1, i⟩, b.2.2⟩))))))
end
end RQ
set_option Elab.async false
set_option linter.all false
set_option maxRecDepth 100000
set_option maxHeartbeats 4000000
namespace Dx
open PySem PySem.Spec PyProof.Rows L2
section
variable {X : Cx} {M : AS} {A B C G : As} {δ δ' : LS} {p p2 pos tpos : Pos} {a b e : Expr} {d : D}
theorem get_list0 : PGet X (fun o i H Q => ∃ (p : Addr) (xs : List V) (k : Nat) (v : V), o = .ref p ∧ i = .int (k : Nat) ∧ SqL X.K H p xs ∧ xs[k]? = some v ∧ Q v H) := by
  intro pins s σ H o i ov iv Q I ro ri ⟨p, xs, k, z, eo, ei, hq, he, q⟩
  subst eo
  subst ei
  cases ro
  obtain ⟨t, rfl⟩ := ri
  obtain ⟨its, r, pl, hz⟩ := I.list hq
  obtain ⟨w, ew, rw'⟩ := r.get he
  have hk : k < its.length := (List.getElem?_eq_some_iff.mp ew).1
  have hn := line63
  have hl := r.length
  exact wpAny_getItem_list pl.isList (by omega) (by omega) (by simpa using ew) ⟨z, H, I, rw', q⟩
/-- o[k] += e, o a list that is being made, all the same state before -/
theorem s_oaug {qa : Addr} {ds : List D} {k : Nat} {x y : Int} (ho : PE X a (tC X.K M A δ A (.ref qa))) (hi : PE X b (tC X.K M A δ A (.int (k : Nat)))) (he : PE X e (tC X.K M A δ A (.int y))) (hq : M.c qa) {E : As} (hl : ∀ H, A.p H → (lstA X.K qa ds).p H) (hk : ds[k]? = some (.int x))
    (hE : ∀ H xs ys, A.p H → H qa = some (.lst xs) → (lstA X.K qa (ds.set k (.int (x + y)))).p (upd H qa (.lst ys)) → E.p (upd H qa (.lst ys)))
    (ha : ∀ ov iv new, augStore b ov iv new = (do holding [new, ov, iv] (setItem ov iv new); release [new, ov, iv] []; pure .next) := by intros; rfl) :
    PS X (.AugAssign (.Subscript a b tpos) .Add e pos) (tO X.K M A δ (.nx E δ)) :=
  ps_imp (ps_augS ho hi get_list0 he ip_add set_list ha) fun D σ H ⟨s, q⟩ => ⟨s, fun v H1 k1 b1 r1 => ⟨s.kp k1 b1, fun w H2 k2 c2 r2 => by
    cases r1
    cases r2
    obtain ⟨f, xs, e1, l1⟩ := hl H2 c2
    obtain ⟨u, e2, ru⟩ := l1.get hk
    cases ru
    have hkl : k < ds.length := (List.getElem?_eq_some_iff.mp hk).1
    refine ⟨qa, xs, k, _, rfl, rfl, SqL.of e1, e2, (s.kp k1 b1).kp k2 c2, fun v3 H3 k3 b3 r3 => ?_⟩
    cases r3
    obtain ⟨f, xs3, e3, l3⟩ := hl H3 b3
    refine ⟨x, y, rfl, rfl, qa, xs3, (k : Nat), k, rfl, rfl, e3, ?_, ?_⟩
    · rw [l3.length]
      unfold ixN
      rw [if_pos (by omega), if_pos (by omega)] <;> rfl
    · have kp4 : Kp M H3 (upd H3 qa (.lst (xs3.set k (.int (x + y))))) := .upd e3 (fun _ z => by cases z) (.inl hq)
      have kt : ∀ b zs, H3 b = some (.tup zs) → upd H3 qa (.lst (xs3.set k (.int (x + y)))) b = some (.tup zs) := fun b zs z => by
        rw [upd_ne (fun w => by rw [w, e3] at z; cases z)]
        exact z
      exact q σ _ (((k1.trans k2).trans k3).trans kp4) (hE H3 xs3 _ b3 e3 ⟨flatL_set rfl k f, _, upd_same, (l3.flat kt ds xs3 f).set (.int _) k⟩) ((s.s.kp ((k1.trans k2).trans k3)).kp kp4)⟩⟩
end
end Dx
namespace RQ
open PySem PySem.Spec PyProof.Rows L2 Dx
/-! ### the bag -/
structure Bag where
  a : Int
  b : Int
  c : Nat
abbrev Cells := List Int
def bagL (s : Bag) (q : Addr) : List D := [.int s.a, .int s.b, .int (s.c : Nat), .ref q]
def bagA (K : PySem.W.Frag) (p q : Addr) (cells : Cells) (s : Bag) : As := (lstA K p (bagL s q)).and (lstA K q (cells.map D.int))
def cellAt (cells : Cells) (c : Nat) : Int := cells.getD c 0
def stepB (cells : Cells) (s : Bag) : Bag := ⟨if 1000000000000000000 ≤ cellAt cells s.c then cellAt cells s.c else s.a, (s.b * 48271 + cellAt cells s.c % 2147483647 + 7919 * ((s.c + 1 : Nat) : Int)) % 2147483647, s.c + 1⟩
def refill (cells : Cells) (s : Bag) : Bag := if s.a = 0 then stepB cells s else s
def firstM (s : Bag) : Int := (s.b + 1) * 39373 % 1000000007
def secondM (s : Bag) : Int := firstM s * firstM s % 998244353 * 30011 % 998244353
def drawM (cells : Cells) (s : Bag) (many : Int) : Int × Bag := if 0 < (refill cells s).a then ((refill cells s).a % many, { refill cells s with a := (refill cells s).a / many }) else (secondM (refill cells s) / 7 % many, refill cells s)
def BagOk (cells : Cells) (s : Bag) : Prop := 0 ≤ s.a ∧ 0 ≤ s.b ∧ ∀ x ∈ cells, (0 : Int) ≤ x
theorem cellAt_ok {cells : Cells} (h : ∀ x ∈ cells, (0 : Int) ≤ x) (c : Nat) : 0 ≤ cellAt cells c := by
  unfold cellAt
  rw [List.getD_eq_getElem?_getD]
  cases e : cells[c]? with
  | none => exact Int.le_refl _
  | some x => exact h x (List.mem_of_getElem? e)
theorem refill_ok {cells : Cells} {s : Bag} (h : BagOk cells s) : BagOk cells (refill cells s) := by
  obtain ⟨h1, h2, h3⟩ := h
  unfold refill
  by_cases z : s.a = 0
  · rw [if_pos z]
    refine ⟨?_, Int.emod_nonneg _ (by decide), h3⟩
    show (0 : Int) ≤ if _ then _ else _
    split
    · exact cellAt_ok h3 _
    · exact h1
  · rw [if_neg z]
    exact ⟨h1, h2, h3⟩
theorem drawM_ok {cells : Cells} {s : Bag} {many : Int} (h : BagOk cells s) (hm : 0 < many) : BagOk cells (drawM cells s many).2 ∧ 0 ≤ (drawM cells s many).1 ∧ (drawM cells s many).1 < many := by
  have hr := refill_ok h
  unfold drawM
  by_cases z : 0 < (refill cells s).a
  · rw [if_pos z]
    exact ⟨⟨Int.ediv_nonneg hr.1 (Int.le_of_lt hm), hr.2.1, hr.2.2⟩, Int.emod_nonneg _ (by omega), Int.emod_lt_of_pos _ hm⟩
  · rw [if_neg z]
    exact ⟨hr, Int.emod_nonneg _ (by omega), Int.emod_lt_of_pos _ hm⟩
theorem firstM_ok (s : Bag) : 0 ≤ firstM s ∧ firstM s < 1000000007 := ⟨Int.emod_nonneg _ (by decide), Int.emod_lt_of_pos _ (by decide)⟩
section
variable {P : Program} {w : World} {K : PySem.W.Frag} {mg : Str → Option Value} {base : Heap}
def preTake (K : PySem.W.Frag) : AS → Hp → List D → List Addr → As → D → Prop := fun M H ds Sx C d => ∃ (p q : Addr) (cells : Cells) (s : Bag) (many : Int), ds = [.ref p, .int many] ∧ (bagA K p q cells s).p H ∧ M.c p ∧ p ≠ q ∧ BagOk cells s ∧ 0 < many ∧ many < 1000 ∧ Sx = [p] ∧ C = bagA K p q cells (drawM cells s many).2 ∧ d = .int (drawM cells s many).1
theorem sc_take : FnScope ["_law_bag_here", "_law_many", "_law_cell", "_law_value", "_law_first", "_law_second"] ["_law_bag_here", "_law_many"] (defScope s_l_take) := ⟨rfl, rfl, rfl, by decide +kernel, rfl, by decide +kernel, by decide +kernel⟩
theorem h_take (T : Txt K mg) : Has P w K mg base 1 (atG "_law_take" K) ["_law_bag_here", "_law_many"] (spW K (preTake K)) := by
  obtain ⟨fd, F⟩ := f_l_take T
  refine ⟨fd, okW F sc_take (fun M H ds Sx C d h => ?_) fun cdv A outer s H E M ds Sx C d hr tr h => ?_, F.bindsN fun _ _ _ _ _ _ us hl => match us, hl with | [_, _], _ => rfl, F.kp⟩
  · obtain ⟨_, _, _, _, _, rfl, _⟩ := h
    rfl
  · obtain ⟨p, q, cells, st, many, rfl, hb, hM, hpq, ok, h0, h1, rfl, rfl, rfl⟩ := h
    let At : Bag → As := fun s => (As.mv [p] H).and (bagA K p q cells s)
    have hat : ∀ s, At s = (As.mv [p] H).and (bagA K p q cells s) := fun _ => rfl
    have hl : ∀ s H', (At s).p H' → (lstA K p (bagL s q)).p H' := fun s H' c => c.2.1
    have hc : ∀ s H', (At s).p H' → (lstA K q (cells.map D.int)).p H' := fun s H' c => c.2.2
    have hE : ∀ (s s' : Bag) H' (xs ys : List V), (At s).p H' → H' p = some (.lst xs) → (lstA K p (bagL s' q)).p (upd H' p (.lst ys)) → (At s').p (upd H' p (.lst ys)) := fun s s' H' xs ys c e l => ⟨⟨fun b o hb n => by
        rw [upd_ne (fun z => n (by simp [z]))]
        exact c.1.keep b o hb n, fun b zs hb => by
        rw [upd_ne (fun z => by rw [z] at hb; have := c.1.tup _ _ hb; rw [e] at this; cases this)]
        exact c.1.tup b zs hb, fun b hb => by
        by_cases z : b = p
        · rw [z, upd_same]; exact fun w => by cases w
        · rw [upd_ne z]; exact c.1.trk b hb⟩, l, (lstA K q (cells.map D.int)).stab e (fun z => hpq z) c.2.2⟩
    refine ⟨At st, .rt (At (drawM cells st many).2) (.int (drawM cells st many).1), ⟨.refl H, hb⟩, fun H' c => ⟨c.1, c.2, rfl⟩, ?_⟩
    have r0 : ∀ (s : Bag) {X : Cx} {M' : AS} {δ : LS} {e : Expr} {pos p2 : Pos} (hK : X.K = K) (he : PE X e (tC X.K M' (At s) δ (At s) (.ref p))), PE X (.Subscript e (.Constant (.int 0) 0 p2) pos) (tC X.K M' (At s) δ (At s) (.int s.a)) := fun s X M' δ e pos p2 hK he => e_oix he e_int (by rw [hK]; exact hl s) (atI_nat (j := 0) rfl)
    have r1 : ∀ (s : Bag) {X : Cx} {M' : AS} {δ : LS} {e : Expr} {pos p2 : Pos} (hK : X.K = K) (he : PE X e (tC X.K M' (At s) δ (At s) (.ref p))), PE X (.Subscript e (.Constant (.int 1) 0 p2) pos) (tC X.K M' (At s) δ (At s) (.int s.b)) := fun s X M' δ e pos p2 hK he => e_oix he e_int (by rw [hK]; exact hl s) (atI_nat (j := 1) rfl)
    have r2 : ∀ (s : Bag) {X : Cx} {M' : AS} {δ : LS} {e : Expr} {pos p2 : Pos} (hK : X.K = K) (he : PE X e (tC X.K M' (At s) δ (At s) (.ref p))), PE X (.Subscript e (.Constant (.int 2) 0 p2) pos) (tC X.K M' (At s) δ (At s) (.int (s.c : Nat))) := fun s X M' δ e pos p2 hK he => e_oix he e_int (by rw [hK]; exact hl s) (atI_nat (j := 2) rfl)
    have r3 : ∀ (s : Bag) {X : Cx} {M' : AS} {δ : LS} {e : Expr} {pos p2 : Pos} (hK : X.K = K) (he : PE X e (tC X.K M' (At s) δ (At s) (.ref p))), PE X (.Subscript e (.Constant (.int 3) 0 p2) pos) (tC X.K M' (At s) δ (At s) (.ref q)) := fun s X M' δ e pos p2 hK he => e_oix he e_int (by rw [hK]; exact hl s) (atI_nat (j := 3) rfl)
    have hcell := cellAt_ok ok.2.2 st.c
    refine ss_cons (B := At (refill cells st)) (δ' := [some (.ref p), some (.int many), none, none, none, none]) (s_if (k := decide (st.a = 0)) (t_eqI (r0 st rfl (e_var 0)) e_int) (fun h => ?yes) fun h => ?no) ?rest
    case no =>
      unfold refill
      rw [if_neg (of_decide_eq_false h)]
      exact ss_nil
    case yes =>
      unfold refill
      rw [if_pos (of_decide_eq_true h)]
      let sa : Bag := ⟨st.a, st.b, st.c + 1⟩
      let sb : Bag := ⟨if 1000000000000000000 ≤ cellAt cells st.c then cellAt cells st.c else st.a, st.b, st.c + 1⟩
      refine ss_forget 2 (ss_cons (s_set 2 sc_take.nd e_int) (ss_cons (B := At st) (δ' := [some (.ref p), some (.int many), some (.int (cellAt cells st.c)), none, none, none]) (s_if (k := decide ((st.c : Int) < (cells.length : Nat))) (t_is (t_lt (r2 st rfl (e_var 0)) (e_olen (n_len T) (r3 st rfl (e_var 0)) (hc st))) (by rw [List.length_map])) (fun h2 => ss_one (s_set 2 sc_take.nd (e_oix (r3 st rfl (e_var 0)) (r2 st rfl (e_var 0)) (hc st) ?at1))) fun h2 => ?no2)
        (ss_cons (B := At sa) (δ' := [some (.ref p), some (.int many), some (.int (cellAt cells st.c)), none, none, none]) (s_oaug (k := 2) (x := (st.c : Nat)) (y := 1) (e_var 0) e_int e_int hM (hl st) rfl fun H' xs ys c e l => hE st sa H' xs ys c e l)
        (ss_cons (B := At sb) (δ' := [some (.ref p), some (.int many), some (.int (cellAt cells st.c)), none, none, none]) (s_if (k := decide ((1000000000000000000 : Int) ≤ cellAt cells st.c)) (t_ge (e_var 2) e_int) (fun h3 => ss_one (s_oset (k := 0) (B := At sa) (C := At sa) (G := At sa) (e_var 2) (e_var 0) e_int hM (hl sa) rfl rfl fun H' xs ys c e l => ?st3)) fun h3 => ?no3)
        (ss_one (s_oset (k := 1) (B := At sb) (C := At sb) (G := At sb) (d := .int (stepB cells st).b) (e_mod (e_add (e_add (e_mul (r1 sb rfl (e_var 0)) e_int (.inr (by decide))) (e_mod (e_var 2) e_int (by decide))) (e_mul e_int (r2 sb rfl (e_var 0)) (.inl (by decide)))) e_int (by decide)) (e_var 0) e_int hM (hl sb) rfl rfl fun H' xs ys c e l => hE sb _ H' xs ys c e l))))))
      case at1 =>
        refine atI_nat ?_
        have hlt : st.c < cells.length := by have := of_decide_eq_true h2; omega
        unfold cellAt
        rw [List.getElem?_map, List.getD_eq_getElem?_getD, List.getElem?_eq_getElem hlt] <;> rfl
      case no2 =>
        have hge : ¬ st.c < cells.length := by have := of_decide_eq_false h2; omega
        have e0 : cellAt cells st.c = 0 := by
          unfold cellAt
          rw [List.getD_eq_getElem?_getD, List.getElem?_eq_none (by omega)] <;> rfl
        rw [e0]
        exact ss_nil
      case st3 =>
        have e0 : sb = ⟨cellAt cells st.c, st.b, st.c + 1⟩ := by
          show Bag.mk _ _ _ = _
          rw [if_pos (of_decide_eq_true h3)]
        rw [e0]
        exact hE sa _ H' xs ys c e l
      case no3 =>
        have e0 : sb = sa := by
          show Bag.mk _ _ _ = Bag.mk _ _ _
          rw [if_neg (of_decide_eq_false h3)]
        rw [e0]
        exact ss_nil
    case rest =>
      have hr' := refill_ok ok
      generalize hs : refill cells st = r at *
      refine ss_if (k := decide (0 < r.a)) (t_gt (r0 r rfl (e_var 0)) e_int) (fun h => ?yes) fun h => ?no
      case yes =>
        have e0 : drawM cells st many = (r.a % many, { r with a := r.a / many }) := by
          unfold drawM
          rw [hs, if_pos (of_decide_eq_true h)]
        rw [e0]
        exact ss_cons (s_set 3 sc_take.nd (e_mod (r0 r rfl (e_var 0)) (e_var 1) h0)) (ss_cons (s_oset (k := 0) (B := At r) (C := At r) (G := At r) (E := At { r with a := r.a / many }) (d := .int (r.a / many)) (e_fdiv (r0 r rfl (e_var 0)) (e_var 1) ⟨h0, by omega⟩) (e_var 0) e_int hM (hl r) rfl rfl fun H' xs ys c e l => hE r _ H' xs ys c e l) (ss_one (s_ret (e_var 3))))
      case no =>
        have e0 : drawM cells st many = (secondM r / 7 % many, r) := by
          unfold drawM
          rw [hs, if_neg (of_decide_eq_false h)]
        rw [e0]
        have hf := firstM_ok r
        exact ss_cons (s_set (d := .int (firstM r)) 4 sc_take.nd (e_mod (e_mul (e_add (r1 r rfl (e_var 0)) e_int) e_int (.inr (by decide))) e_int (by decide)))
          (ss_cons (s_set (d := .int (secondM r)) 5 sc_take.nd (e_mod (e_mul (e_mod (e_mul (e_var 4) (e_var 4) (.inl ⟨by omega, by omega⟩)) e_int (by decide)) e_int (.inr (by decide))) e_int (by decide)))
          (ss_if (k := false) (t_is (t_gt (e_var 1) e_int) (decide_eq_false (by omega))) (fun h => by cases h) fun _ => ss_one (s_ret (e_mod (e_fdiv (e_var 5) e_int ⟨by decide, by decide⟩) (e_var 1) h0))))
end
end RQ
set_option Elab.async false
set_option linter.all false
set_option maxRecDepth 100000
set_option maxHeartbeats 4000000
namespace Dx
open PySem PySem.Spec PyProof.Rows L2
/-! several lists that are being made; statements that store flat data with new things -/
def AS.owns (M : AS) (as : List Addr) : AS := ⟨fun a => M.x a ∨ a ∈ as, fun a => M.c a ∨ a ∈ as, fun a h => h.imp (M.sub a) id⟩
theorem Kp.ofOwns {M : AS} {as : List Addr} {H H' : Hp} (n : ∀ a ∈ as, H a = none) (k : Kp (M.owns as) H H') : Kp M H H' := k.fewer fun a (z : M.c a ∨ a ∈ as) => z.elim .inl fun z => .inr (n a z)
theorem Kp.toOwns {M : AS} {as : List Addr} {H H' : Hp} (k : Kp M H H') : Kp (M.owns as) H H' := k.less fun _ z => .inl z
theorem Out.ok_owns {K : PySem.W.Frag} {M : AS} {as : List Addr} {H : Hp} {E : Ends} (n : ∀ a ∈ as, H a = none) : ∀ {o : Out} {H1 : Hp}, Kp (M.owns as) H H1 → o.ok K M H E → o.ok K (M.owns as) H1 E
  | .nx B δ, _, k, h => fun σ' H' k2 b r => h σ' H' (.ofOwns n (k.trans k2)) b (r.less fun a z => (show M.x a ∨ a ∈ as from Or.inl z))
  | .rt B d, _, k, h => fun v H' k2 b r => h v H' (.ofOwns n (k.trans k2)) b (r.less (fun a z => (show M.x a ∨ a ∈ as from Or.inl z)) d v)
  | .bk B δ, _, k, h => fun σ' H' k2 b r => h σ' H' (.ofOwns n (k.trans k2)) b (r.less fun a z => (show M.x a ∨ a ∈ as from Or.inl z))
  | .all o, _, k, h => fun g ng => Out.ok_owns n k (h g fun i => k.free (ng i))
  | .rx p, _, k, h => fun v H' d k2 b r => h v H' d (.ofOwns n (k.trans k2)) b (r.less (fun a z => (show M.x a ∨ a ∈ as from Or.inl z)) d v)
def setV (σ : L2.St) : List (Nat × V) → L2.St
  | [] => σ
  | (i, v) :: r => setV (σ.set i (some v)) r
def setD (δ : LS) : List (Nat × D) → LS
  | [] => δ
  | (i, v) :: r => setD (δ.set i (some v)) r
inductive FlV (K : PySem.W.Frag) (H : Hp) : List (Nat × V) → List (Nat × D) → Prop
  | nil : FlV K H [] []
  | cons {i : Nat} {v : V} {d : D} {vs : List (Nat × V)} {ds : List (Nat × D)} : Rp K AS.no H v d → flatD d = true → FlV K H vs ds → FlV K H ((i, v) :: vs) ((i, d) :: ds)
theorem FlV.set {K : PySem.W.Frag} {M : AS} {H : Hp} {vs : List (Nat × V)} {ds : List (Nat × D)} (f : FlV K H vs ds) : ∀ {σ : L2.St} {δ : LS}, RelS K M H σ δ → RelS K M H (setV σ vs) (setD δ ds) := by
  induction f with
  | nil => exact fun r => r
  | cons h f t ih => exact fun r => ih (r.set _ (h.flat (fun _ _ z => z) _ _ f))
def tOF (K : PySem.W.Frag) (M : AS) (A : As) (δ : LS) (Bg : Gh → As) (sg : Gh → List (Nat × D)) : TS := fun E σ H => St0 K M A δ σ H ∧ ∀ (g : Gh) (vs : List (Nat × V)) H', (∀ i, H (g i) = none) → Kp M H H' → (Bg g).p H' → FlV K H' vs (sg g) → E.nx (setV σ vs) H'
section
variable {X : Cx} {M : AS} {A B C G : As} {δ δ' : LS} {pos p p2 apos cpos epos : Pos} {x y z d : D} {a b c e o tg iter : Expr} {st : Stmt} {rest : List Stmt} {ou : Out} {Bg Cg : Gh → As} {dg : Gh → D}
theorem f_toO {sg : Gh → List (Nat × D)} (h : PS X st (tOF X.K M A δ Bg sg)) : PS X st (tO X.K M A δ (.all fun g => .nx (Bg g) (setD δ (sg g)))) := ps_imp h fun E σ H ⟨s, q⟩ => ⟨s, fun g vs H1 n k1 b1 f1 => q g n _ H1 k1 b1 (f1.set (s.s.kp k1))⟩
/-- a statement that makes lists which what follows changes -/
theorem ss_own (js : List Nat) {sg : Gh → List (Nat × D)} (h1 : PS X st (tOF X.K M A δ Bg sg)) (tr : ∀ g H, (Bg g).p H → ∀ j ∈ js, H (g j) ≠ none) (h2 : ∀ g : Gh, (∀ i, ¬ M.x (g i)) → PSs X rest (tO X.K (M.owns (js.map g)) (Bg g) (setD δ (sg g)) ou)) : PSs X (st :: rest) (tO X.K M A δ ou) :=
  pss_imp (pss_cons h1 (pss_any (sts := rest))) fun E σ H ⟨s, q⟩ => ⟨s, fun g vs H1 n k1 b1 f1 => by
    have nM : ∀ i, ¬ M.x (g i) := fun i z => s.tr _ z (n i)
    have na : ∀ a ∈ js.map g, H a = none := fun a ha => let ⟨j, _, e⟩ := List.mem_map.mp ha; e ▸ n j
    refine ⟨_, h2 g nM, ⟨b1, fun a z => z.elim (fun z => k1.trk a (s.tr a z)) fun z => let ⟨j, hj, e⟩ := List.mem_map.mp z; e ▸ tr g H1 b1 j hj, ?_⟩, Out.ok_owns na k1.toOwns q⟩
    exact f1.set ((s.s.more (M' := M.owns (js.map g)) fun a z => z.elim .inl fun z => .inr (na a z)).kp k1.toOwns)⟩
/-- .. the block's own new things are among them -/
theorem ss_ownG (js : List Nat) (π : Nat → Nat) {og : Gh → Out} {sg : Gh → List (Nat × D)} (h1 : PS X st (tOF X.K M A δ Bg sg)) (tr : ∀ g H, (Bg g).p H → ∀ j ∈ js, H (g j) ≠ none) (h2 : ∀ g : Gh, (∀ i, ¬ M.x (g i)) → PSs X rest (tO X.K (M.owns (js.map g)) (Bg g) (setD δ (sg g)) (og fun i => g (π i)))) : PSs X (st :: rest) (tO X.K M A δ (.all og)) :=
  pss_imp (pss_cons h1 (pss_any (sts := rest))) fun E σ H ⟨s, q⟩ => ⟨s, fun g vs H1 n k1 b1 f1 => by
    have nM : ∀ i, ¬ M.x (g i) := fun i z => s.tr _ z (n i)
    have na : ∀ a ∈ js.map g, H a = none := fun a ha => let ⟨j, _, e⟩ := List.mem_map.mp ha; e ▸ n j
    refine ⟨_, h2 g nM, ⟨b1, fun a z => z.elim (fun z => k1.trk a (s.tr a z)) fun z => let ⟨j, hj, e⟩ := List.mem_map.mp z; e ▸ tr g H1 b1 j hj, ?_⟩, Out.ok_owns na k1.toOwns (q _ fun i => n (π i))⟩
    exact f1.set ((s.s.more (M' := M.owns (js.map g)) fun a z => z.elim .inl fun z => .inr (na a z)).kp k1.toOwns)⟩
/-! arguments with new things -/
theorem a_oneG (h : PE X e (tCG X.K M A δ Bg dg)) (hs : starEach (e :: []) X.env = (false, eval e X.env) :: starEach [] X.env := by rfl) : PA X [e] (tCAG X.K M A δ Bg (fun g => [dg g])) := a_consG h (fun g => a_nil) hs
/-- two families of new things in one -/
def evens (g : Gh) : Gh := fun i => g (2 * i)
def odds (g : Gh) : Gh := fun i => g (2 * i + 1)
def weave (g h : Gh) : Gh := fun i => if i % 2 = 0 then g (i / 2) else h (i / 2)
theorem evens_weave (g h : Gh) : evens (weave g h) = g := funext fun i => by
  unfold evens weave
  rw [if_pos (by omega)]
  congr 1
  omega
theorem odds_weave (g h : Gh) : odds (weave g h) = h := funext fun i => by
  unfold odds weave
  rw [if_neg (by omega)]
  congr 1
  omega
theorem weave_free {H H1 : Hp} {g h : Gh} (n : ∀ i, H (g i) = none) (n1 : ∀ i, H1 (h i) = none) (f : ∀ a, H1 a = none → H a = none) (i : Nat) : H (weave g h i) = none := by
  unfold weave
  split
  · exact n _
  · exact f _ (n1 _)
theorem a_consGG {es : List Expr} {Cg : Gh → Gh → As} {ds : Gh → Gh → List D} (h : PE X e (tCG X.K M A δ Bg dg)) (t : ∀ g, PA X es (tCAG X.K M (Bg g) δ (Cg g) (ds g))) (hs : starEach (e :: es) X.env = (false, eval e X.env) :: starEach es X.env := by rfl) :
    PA X (e :: es) (tCAG X.K M A δ (fun g => Cg (evens g) (odds g)) (fun g => dg (evens g) :: ds (evens g) (odds g))) := by
  have hany : PA X es (fun σ H Q => ∃ t, PA X es t ∧ t σ H Q) := ⟨fun pos pins s σ H Q I ⟨t, h, q⟩ => h.run pos pins s σ H Q I q⟩
  exact pa_imp (pa_cons h hany hs) fun σ H Q ⟨s, q⟩ => ⟨s, fun g v H1 n k1 b1 r1 => ⟨_, t g, s.kp k1 b1, fun g2 vs H2 n2 k2 c2 r2 => by
    have := q (weave g g2) (v :: vs) H2 (weave_free n n2 fun a => k1.free) (k1.trans k2)
    simp only [evens_weave, odds_weave] at this
    exact this c2 (.cons (r1.kp k2 _ v) r2)⟩⟩
theorem a_consC {es : List Expr} {ds : Gh → List D} (h : PE X e (tC X.K M A δ B d)) (t : PA X es (tCAG X.K M B δ Cg ds)) (hs : starEach (e :: es) X.env = (false, eval e X.env) :: starEach es X.env := by rfl) : PA X (e :: es) (tCAG X.K M A δ Cg (fun g => d :: ds g)) :=
  pa_imp (pa_cons h t hs) fun σ H Q ⟨s, q⟩ => ⟨s, fun v H1 k1 b1 r1 => ⟨s.kp k1 b1, fun g vs H2 n k2 c2 r2 => q g _ H2 (fun i => k1.free (n i)) (k1.trans k2) c2 (.cons (r1.kp k2 _ v) r2)⟩⟩
/-- the new things are none that the state leans on -/
theorem g_fresh (h : PE X e (tCG X.K M A δ Bg dg)) : PE X e (tCG X.K M A δ (fun g => (Bg g).and (As.pure (∀ i, ¬ A.L (g i)))) dg) :=
  pe_imp h fun σ H Q ⟨s, q⟩ => ⟨s, fun g v H' n k b r => q g v H' n k ⟨b, fun i z => A.trk s.a z (n i)⟩ r⟩
theorem e_newL : PE X (.List [] pos) (tCG X.K M A δ (fun g => A.and (lstA X.K (g 0) [])) (fun g => .ref (g 0))) :=
  pe_imp (pe_lst pa_nil) fun σ H Q ⟨s, q⟩ => ⟨Nat.zero_le _, fun l hl => q (fun _ => l) _ _ (fun _ => hl) (.new hl) ⟨A.mono (Same.new hl) s.a, rfl, [], upd_same, .nil⟩ (.ref l)⟩
/-! stores -/
theorem flat1 {K : PySem.W.Frag} {H : Hp} {v : V} {d : D} (r : Rp K M H v d) (f : flatD d = true) : Rp K AS.no H v d := r.flat (fun _ _ z => z) _ _ f
theorem f_set (i : Nat) {n : Str} {pos' : Pos} (hN : X.N.Nodup) (he : PE X e (tCG X.K M A δ Bg dg)) (hf : ∀ g, flatD (dg g) = true) (hi : X.N[i]? = some n := by rfl) (hx : Loc X.env.scope n := by first | exact Or.inl rfl | exact Or.inr rfl) (hs : swapsWith e (some (.Name n pos')) pos.line X.env = pure false := by rfl)
    (hfn : X.fn n = true ∨ X.env.scope.names.lookup n = some .local := by first | exact .inl rfl | exact .inr rfl) : PS X (.Assign [.Name n pos'] e pos) (tOF X.K M A δ Bg (fun g => [(i, dg g)])) :=
  ps_imp (ps_set (i := i) hN hi hx he hs hfn) fun E σ H ⟨s, q⟩ => ⟨s, fun g v H1 n1 k1 b1 r1 => q g [(i, v)] H1 n1 k1 b1 (.cons (flat1 r1 (hf g)) (hf g) .nil)⟩
theorem f_par (i j : Nat) {n m : Str} {px py pt : Pos} {kt k2 pt2} {d1 d2 : Gh → D} (hc : X.calm = true) (hN : X.N.Nodup) (hi : X.N[i]? = some n) (hj : X.N[j]? = some m) (hij : i ≠ j) (hx : X.env.scope.names.lookup n = some .local) (hy : X.env.scope.names.lookup m = some .local)
    (ha : PA X [a, b] (tCAG X.K M A δ Bg (fun g => [d1 g, d2 g]))) (f1 : ∀ g, flatD (d1 g) = true) (f2 : ∀ g, flatD (d2 g) = true) (hw : swappedStores [.Tuple [.Name n px, .Name m py] kt pt] (.Tuple [a, b] k2 pt2) X.env = pure (some [n, m])) (hs : swapsWithSole [.Tuple [.Name n px, .Name m py] kt pt] (.Tuple [a, b] k2 pt2) pos.line X.env = pure false := by rfl) :
    PS X (.Assign [.Tuple [.Name n px, .Name m py] kt pt] (.Tuple [a, b] k2 pt2) pos) (tOF X.K M A δ Bg (fun g => [(i, d1 g), (j, d2 g)])) :=
  ps_imp (ps_par hc hN hi hj hij hx hy ha hw hs) fun E σ H ⟨s, q⟩ => ⟨s, fun g vs H1 n1 k1 b1 r1 => by
    cases r1 with
    | cons r1 r2 => cases r2 with
      | cons r2 r3 =>
        cases r3
        exact ⟨_, _, rfl, q g [(i, _), (j, _)] H1 n1 k1 b1 (.cons (flat1 r1 (f1 g)) (f1 g) (.cons (flat1 r2 (f2 g)) (f2 g) .nil))⟩⟩
theorem f_par3 (i j l : Nat) {n m k : Str} {px py pz pt : Pos} {kt k2 pt2} {d1 d2 d3 : Gh → D} (hc : X.calm = true) (hN : X.N.Nodup) (hi : X.N[i]? = some n) (hj : X.N[j]? = some m) (hl : X.N[l]? = some k) (hij : i ≠ j) (hil : i ≠ l) (hjl : j ≠ l) (hx : X.env.scope.names.lookup n = some .local) (hy : X.env.scope.names.lookup m = some .local) (hz : X.env.scope.names.lookup k = some .local)
    (ha : PA X [a, b, c] (tCAG X.K M A δ Bg (fun g => [d1 g, d2 g, d3 g]))) (f1 : ∀ g, flatD (d1 g) = true) (f2 : ∀ g, flatD (d2 g) = true) (f3 : ∀ g, flatD (d3 g) = true) (hw : swappedStores [.Tuple [.Name n px, .Name m py, .Name k pz] kt pt] (.Tuple [a, b, c] k2 pt2) X.env = pure (some [n, m, k])) (hs : swapsWithSole [.Tuple [.Name n px, .Name m py, .Name k pz] kt pt] (.Tuple [a, b, c] k2 pt2) pos.line X.env = pure false := by rfl) :
    PS X (.Assign [.Tuple [.Name n px, .Name m py, .Name k pz] kt pt] (.Tuple [a, b, c] k2 pt2) pos) (tOF X.K M A δ Bg (fun g => [(i, d1 g), (j, d2 g), (l, d3 g)])) :=
  ps_imp (ps_par3 hc hN hi hj hl hij hil hjl hx hy hz ha hw hs) fun E σ H ⟨s, q⟩ => ⟨s, fun g vs H1 n1 k1 b1 r1 => by
    cases r1 with
    | cons r1 r2 => cases r2 with
      | cons r2 r3 => cases r3 with
        | cons r3 r4 =>
          cases r4
          exact ⟨_, _, _, rfl, q g [(i, _), (j, _), (l, _)] H1 n1 k1 b1 (.cons (flat1 r1 (f1 g)) (f1 g) (.cons (flat1 r2 (f2 g)) (f2 g) (.cons (flat1 r3 (f3 g)) (f3 g) .nil)))⟩⟩
def gNames : List Nat → TGs
  | [] => gNil
  | i :: is => gCons (gName i) (gNames is)
theorem names_ok {K : PySem.W.Frag} {H : Hp} {Q : L2.St → Hp → Prop} : ∀ {is : List Nat} {vs : List V} {ds : List D} {σ : L2.St}, is.length = ds.length → RpL K M H vs ds → flatL ds = true → (∀ ws, FlV K H ws (is.zip ds) → Q (setV σ ws) H) → gNames is vs σ H Q
  | [], _, ds, σ, e, r, f, q => by
    cases ds with
    | nil =>
      cases r
      exact ⟨rfl, q [] .nil⟩
    | cons d ds => cases e
  | i :: is, _, ds, σ, e, r, f, q => by
    cases ds with
    | nil => cases e
    | cons d ds =>
      obtain ⟨f1, f2⟩ := Bool.and_eq_true_iff.mp (show (flatD d && flatL ds) = true from f)
      cases r with
      | cons r1 r2 => exact ⟨_, _, rfl, names_ok (Nat.succ.inj e) r2 f2 fun ws h => q ((i, _) :: ws) (.cons (flat1 r1 f1) f1 h)⟩
/-- x, y, .. = e, .. that is no swap -/
theorem f_tup (is : List Nat) {es : List Expr} {ts : List Expr} {k kt : Nat} {tp : Pos} {ds : Gh → List D} (hc : X.calm = true) (he : PA X es (tCAG X.K M A δ Bg ds)) (hl : ∀ g, is.length = (ds g).length) (hz : is.length ≤ 100) (hf : ∀ g, flatL (ds g) = true) (hg : PGs X ts (gNames is)) (hn : (assignEach ts X.env).length = is.length := by rfl) (hst : (assignEach ts X.env).findIdx? (·.1) = none := by rfl)
    (hs : swapsWithSole [.Tuple ts kt tp] (.Tuple es k p) pos.line X.env = pure false := by rfl) (hw : swappedStores [.Tuple ts kt tp] (.Tuple es k p) X.env = pure none := by rfl) (h1 : (assignEach [.Tuple ts kt tp] X.env).map (·.2) = [assign (.Tuple ts kt tp) X.env] := by rfl) :
    PS X (.Assign [.Tuple ts kt tp] (.Tuple es k p) pos) (tOF X.K M A δ Bg (fun g => is.zip (ds g))) :=
  ps_imp (ps_asg (g_tup he fun g => (hl g) ▸ hz) (pg_tup hc hg hn hst) hs hw h1) fun E σ H ⟨s, q⟩ => ⟨s, fun g v H1 n1 k1 b1 r1 => by
    obtain ⟨t, xs, rfl, h1, l1⟩ := r1.tup_inv
    exact ⟨t, xs, rfl, h1, by rw [l1.length, hl g], names_ok (hl g) l1 (hf g) fun ws h => q g ws H1 n1 k1 b1 h⟩⟩
/-! own lists: an item put in at a place, a part, int of a truth, sorted texts -/
theorem s_oins {qa : Addr} {ds : List D} {k : Nat} {e2 : Expr} (ho : PE X o (tC X.K M A δ A (.ref qa))) (hi : PE X e (tC X.K M A δ B (.int (k : Nat)))) (he : PE X e2 (tC X.K M B δ C d)) (hq : M.c qa) (hb : ∀ H, A.p H → (lstA X.K qa ds).p H) (hl : ∀ H, C.p H → (lstA X.K qa ds).p H) (hd : flatD d = true) (hk : k ≤ 1000) (hz : ds.length < sizeLine)
    (hG : ∀ H xs ys, C.p H → H qa = some (.lst xs) → (lstA X.K qa (ds.take k ++ [d] ++ ds.drop k)).p (upd H qa (.lst ys)) → G.p (upd H qa (.lst ys)))
    (hbase : attributeBase o "insert" X.env (eval o X.env) = eval o X.env := by rfl)
    (hfew : ((backTo cpos (starEach (e :: [e2]) X.env)).all (fun x => !x.1) && (backToKw cpos (keywordEach [] X.env)).all (fun x => x.1.isSome) && decide ((e :: [e2]).length + ([] : List Keyword).length + (if ([] : List Keyword).isEmpty then 0 else 1) < 30)) = true := by rfl)
    (hline : (apos.endLine == cpos.line) = true := by rfl) (hs : starEach (e :: [e2]) X.env = (false, eval e X.env) :: starEach [e2] X.env := by rfl) (hs2 : starEach (e2 :: []) X.env = (false, eval e2 X.env) :: starEach [] X.env := by rfl) (hplain : (backTo cpos (starEach [e2] X.env)).any (·.1) = false := by rfl)
    (hsw : swapsWith (.Call (.Attribute o "insert" apos) [e, e2] [] cpos) none pos.line X.env = pure false := by rfl) : PS X (.Expr (.Call (.Attribute o "insert" apos) [e, e2] [] cpos) pos) (tO X.K M A δ (.nx G δ)) := by
  refine ps_imp (ps_expr (pe_bm PySem.F.plainAttrs_list PySem.F.slot_list_insert PySem.F.type_list_insert mt_insert ho (pa_cons hi (pa_cons he pa_nil hs2) hs) hbase hfew hline hs hplain) hsw) fun E σ H ⟨s, q⟩ => ⟨s, fun v H1 k1 b1 r1 => ?_⟩
  cases r1
  obtain ⟨f, xs, e1, l1⟩ := hb H1 b1
  refine ⟨.inl ⟨rfl, xs, SqL.of e1⟩, s.kp k1 b1, fun v2 H2 k2 b2 r2 => ⟨(s.kp k1 b1).kp k2 b2, fun v3 H3 k3 c3 r3 => ?_⟩⟩
  cases r2
  obtain ⟨f, xs3, e3, l3⟩ := hl H3 c3
  refine ⟨qa, xs3, (k : Nat), v3, rfl, rfl, e3, by rw [l3.length]; exact hz, by omega, by omega, ?_⟩
  rw [Int.toNat_natCast]
  have kp4 : Kp M H3 (upd H3 qa (.lst (xs3.take k ++ [v3] ++ xs3.drop k))) := .upd e3 (fun _ z => by cases z) (.inl hq)
  have kt : ∀ b zs, H3 b = some (.tup zs) → upd H3 qa (.lst (xs3.take k ++ [v3] ++ xs3.drop k)) b = some (.tup zs) := fun b zs z => by
    rw [upd_ne (fun w => by rw [w, e3] at z; cases z)]
    exact z
  have lf := l3.flat (M' := AS.no) kt ds xs3 f
  have fT : flatL (ds.take k) = true ∧ flatL (ds.drop k) = true := by
    have := f
    rw [← List.take_append_drop k ds] at this
    have key : ∀ xs ys : List D, flatL (xs ++ ys) = true → flatL xs = true ∧ flatL ys = true := by
      intro xs
      induction xs with
      | nil => intro ys h; exact ⟨rfl, h⟩
      | cons x xs ih =>
        intro ys h
        obtain ⟨h1, h2⟩ := Bool.and_eq_true_iff.mp (show (flatD x && flatL (xs ++ ys)) = true from h)
        obtain ⟨h3, h4⟩ := ih ys h2
        exact ⟨by show (flatD x && flatL xs) = true; rw [h1, h3] <;> rfl, h4⟩
    exact key _ _ this
  refine q σ _ (((k1.trans k2).trans k3).trans kp4) (hG H3 xs3 _ c3 e3 ⟨flatL_append (flatL_append fT.1 (by show (flatD d && true) = true; rw [hd] <;> rfl)) fT.2, _, upd_same, ((lf.take k).append (RpL.one (r3.flat kt d v3 hd))).append (lf.drop k)⟩) ((s.s.kp ((k1.trans k2).trans k3)).kp kp4)
theorem e_osl {qa : Addr} {ds : List D} {l u : Option Expr} {lo hi : Option Int} {p2} (he : PE X e (tC X.K M A δ B (.ref qa))) (hl : PO X l (tCO X.K M B δ C lo)) (hu : PO X u (tCO X.K M C δ G hi)) (ht : ∀ H, G.p H → (lstA X.K qa ds).p H) : PE X (.Subscript e (.Slice l u none p2) pos) (tC X.K M A δ G (.lst (cutD ds lo hi))) :=
  pe_imp (pe_slice sl_list he hl hu) fun σ H Q ⟨s, q⟩ => ⟨s, fun v H1 k1 b1 r1 => ⟨s.kp k1 b1, fun H2 k2 c2 => ⟨(s.kp k1 b1).kp k2 c2, fun H3 k3 g3 => by
    have r3 := r1.kp (k2.trans k3) _ v
    have k13 := (k1.trans k2).trans k3
    cases r3
    obtain ⟨f, xs, h1, l1⟩ := ht H3 g3
    have l1 : RpL X.K M H3 xs ds := l1.flat (fun _ _ z => z) _ _ f
    exact ⟨qa, xs, rfl, SqL.of h1, fun p hp => q _ _ (k13.trans (.new hp)) (G.mono (Same.new hp) g3) (.lst upd_same (tr_new (fun m hm => k13.trk m (s.tr m hm)) hp) (Same.newK hp (l1.cut lo hi)))⟩⟩⟩⟩
theorem e_intB {k : Bool} (hm : X.mg "int" = none) (h : PE X e (tC X.K M A δ B (.bl k))) (hg : Gl X "int" := by rfl) (hs : starEach (e :: []) X.env = (false, eval e X.env) :: starEach [] X.env := by rfl) (hpl : (backTo pos (starEach [] X.env)).any (·.1) = false := by rfl) :
    PE X (.Call (.Name "int" p) [e] [] pos) (tC X.K M A δ B (.int (if k then 1 else 0))) :=
  e_callTy call_int1 (a_one h hs) (fun H vs c t r Q q => by
    cases r with
    | cons r1 r2 =>
      cases r2
      cases r1
      exact .inr ⟨k, rfl, q _ H (Same.refl H) (.int _)⟩) hm (by decide +kernel) hg (by decide) (by decide) hs hpl
theorem e_strI {i : Int} (hm : X.mg "str" = none) (hi : i.natAbs.log2 < 1920) (h : PE X e (tC X.K M A δ B (.int i))) (hg : Gl X "str" := by rfl) (hs : starEach (e :: []) X.env = (false, eval e X.env) :: starEach [] X.env := by rfl) (hpl : (backTo pos (starEach [] X.env)).any (·.1) = false := by rfl) :
    PE X (.Call (.Name "str" p) [e] [] pos) (tC X.K M A δ B (.str (toString i))) :=
  e_callTy call_str_int (a_one h hs) (fun H vs c t r Q q => by
    cases r with
    | cons r1 r2 =>
      cases r2
      cases r1
      exact ⟨i, rfl, hi, q _ H (Same.refl H) (.str _)⟩) hm (by decide +kernel) hg (by decide) (by decide) hs hpl
/-- sorted of texts, where all sorted orders are one -/
theorem e_sortedS {xs zs : List Str} (hm : X.mg "sorted" = none) (hz : xs.length < 64) (hu : ∀ ys : List Str, ys.Perm xs → sortedS ys = true → ys = zs) (h : PE X e (tC X.K M A δ B (.lst (xs.map D.str)))) (hg : Gl X "sorted" := by rfl) (hs : starEach (e :: []) X.env = (false, eval e X.env) :: starEach [] X.env := by rfl) (hpl : (backTo pos (starEach [] X.env)).any (·.1) = false := by rfl) :
    PE X (.Call (.Name "sorted" p) [e] [] pos) (tC X.K M A δ B (.lst (zs.map D.str))) :=
  pe_imp (pe_callB cr_sortedS hg hm (by decide +kernel) (a_one h hs) (by decide) (by decide) hs hpl) fun σ H Q ⟨s, q⟩ => ⟨s, fun vs H1 k1 b1 r1 => by
    cases r1 with
    | cons r1 r2 =>
      cases r2
      obtain ⟨a, ys, rfl, h1, m1, l1⟩ := r1.lst_inv
      rw [l1.strs_inv] at h1
      refine ⟨a, xs, rfl, SqL.of h1, hz, fun ys p hp hs hn => ?_⟩
      rw [hu ys hp hs]
      exact q _ _ (k1.trans (.new hn)) (B.mono (Same.new hn) b1) (.lst upd_same (tr_new (fun m hm => k1.trk m (s.tr m hm)) hn) (RpL.strs zs))⟩
end
end Dx
set_option Elab.async false
set_option linter.all false
set_option maxRecDepth 100000
set_option maxHeartbeats 4000000
namespace Dx
open PySem PySem.Spec PyProof.Rows L2
section
variable {X : Cx} {M : AS} {A B C G : As} {δ δ' : LS} {pos p p2 apos cpos epos : Pos} {x y z d : D} {a b e o tg iter : Expr} {items : List D} {sts : List Stmt} {ou : Out}
/-- what the state tells without the heap -/
theorem ss_pure {φ : Prop} (hφ : ∀ H, A.p H → φ) (h : φ → PSs X sts (tO X.K M A δ ou)) : PSs X sts (tO X.K M A δ ou) := pss_imp pss_any fun E σ H ⟨s, q⟩ => ⟨_, h (hφ H s.a), s, q⟩
/-- a comprehension without a test whose turns leave the state as it is: a new list -/
theorem e_lcMF {elt : Expr} {scope : Scope} {own : List (Str × Nat)} {g : TG} {js : List Nat} {f : D → LS → Option LS} (F : D → D) (hc : X.calm = true) (hN : X.N.Nodup) (ok : BlkOk X.N X.env.scope scope own)
    {W : Hp → Prop} (hi : PIt X M tg iter A δ B W items) (hW : ∀ H, B.p H → W H) (hg : ∀ (s : Shared) (H : Hp) (C : Addr) (cl : List (Str × Addr)) (fp : List Addr), PG (X.blk s H scope (compEnvC scope cl C X.env) fp) tg g) (tgk : TgOk X.K g js f) (hjs : ∀ j ∈ js, j ∈ own.map (·.2)) (hz : items.length < sizeLine)
    (turns : ∀ M' : AS, (∀ a, M.x a → M'.x a) → M'.c = M.c → ∀ d ∈ items, ∃ δ', f d (wipeL δ (own.map (·.2))) = some δ' ∧
      ∀ s H C cl fp, PE (X.blk s H scope (compEnvC scope cl C X.env) fp) elt (tC X.K M' B δ' B (F d)))
    (hs : ∀ x, foldedSetIterable iter X.env x = pure x := by intro _; rfl) :
    PE X (.ListComp elt [⟨tg, iter, [], 0⟩] scope pos) (tCF X.K M A δ B (.lst (items.map F))) := by
  obtain ⟨wi, hpi, hr⟩ := lc_readF (X := X) (M := M) (A := A) (δ := δ) (elt := elt) (ifs := []) (scope := scope) (own := own) (f := f) (fun _ => B) (fun _ => B) (fun _ => true) (fun i => F (items.getD i .non)) hi (fun _ H => hW H) tgk hjs (fun _ _ h => h) hz (fun M' h1 h2 i d hd => by
    obtain ⟨δ', h3, h4⟩ := turns M' h1 h2 d (List.mem_of_getElem? hd)
    exact ⟨δ', h3, fun s H C cl fp => ts_nil, fun _ s H C cl fp => by show PE _ elt (tC X.K M' B δ' B (F (items.getD i .non))); rw [getD_of hd]; exact h4 s H C cl fp, fun z => by cases z⟩)
  have hg2 := gather_filter items (fun _ => true) F
  rw [List.filter_eq_self.mpr fun _ _ => rfl] at hg2
  rw [hg2] at hr
  exact pe_imp (pe_lc hc hN hpi ok hg (fun s H C cl fp => pts_any (Y := fun s H C cl fp => X.blk s H scope (compEnvC scope cl C X.env) fp) s H C cl fp) (fun s H C cl fp => pe_any (Y := fun s H C cl fp => X.blk s H scope (compEnvC scope cl C X.env) fp) s H C cl fp) hs) hr
/-- [i, j, k, e], e a new list of flat data: both will be changed -/
theorem g_list4 {i j k : Int} {n1 n2 n3 : Nat} {p1 p2 p3 : Pos} {cs : List D} (h : PE X e (tCF X.K M A δ B (.lst cs))) (hf : flatL cs = true)
    (hs1 : starEach (.Constant (.int i) n1 p1 :: [.Constant (.int j) n2 p2, .Constant (.int k) n3 p3, e]) X.env = (false, eval (.Constant (.int i) n1 p1) X.env) :: starEach [.Constant (.int j) n2 p2, .Constant (.int k) n3 p3, e] X.env := by rfl) (hs2 : starEach (.Constant (.int j) n2 p2 :: [.Constant (.int k) n3 p3, e]) X.env = (false, eval (.Constant (.int j) n2 p2) X.env) :: starEach [.Constant (.int k) n3 p3, e] X.env := by rfl)
    (hs3 : starEach (.Constant (.int k) n3 p3 :: [e]) X.env = (false, eval (.Constant (.int k) n3 p3) X.env) :: starEach [e] X.env := by rfl) (hs4 : starEach (e :: []) X.env = (false, eval e X.env) :: starEach [] X.env := by rfl) :
    PE X (.List [.Constant (.int i) n1 p1, .Constant (.int j) n2 p2, .Constant (.int k) n3 p3, e] pos) (tCG X.K M A δ (fun g => (B.and ((lstA X.K (g 0) [.int i, .int j, .int k, .ref (g 1)]).and (lstA X.K (g 1) cs))).and (As.pure (g 0 ≠ g 1))) (fun g => .ref (g 0))) :=
  pe_imp (pe_lst (pa_cons pe_int (pa_cons pe_int (pa_cons pe_int (pa_cons h pa_nil hs4) hs3) hs2) hs1)) fun σ H0 Q ⟨s0, q⟩ => ⟨s0, fun l H1 nl k1 b1 r1 => by
    obtain ⟨a0, xs, e0, h1, m1, l1⟩ := r1.lst_inv
    cases e0
    refine ⟨by show 4 ≤ sizeLine; decide, fun p hp => ?_⟩
    have hne : l ≠ p := ne_of_none h1 hp
    refine q (fun i => if i = 0 then p else l) _ _ (fun i => ?_) (k1.trans (.new hp)) ⟨⟨B.mono (Same.new hp) b1, ⟨rfl, _, upd_same, .cons (.int _) (.cons (.int _) (.cons (.int _) (.cons (.ref _) .nil)))⟩, ⟨hf, xs, Same.new hp _ _ h1, (l1.flat (M' := AS.no) (fun a xs z => Same.new hp a _ z) _ _ hf)⟩⟩, hne.symm⟩ (.ref p)
    show H0 (if i = 0 then p else l) = none
    split
    · exact k1.free hp
    · exact nl⟩
/-- a part of a list that stands outside -/
theorem e_qsl {qa : Addr} {xs : List V} {ds : List D} {l u : Option Expr} {lo hi : Option Int} {p2} (he : PE X e (tC X.K M A δ B (.ref qa))) (hl : PO X l (tCO X.K M B δ C lo)) (hu : PO X u (tCO X.K M C δ G hi)) (ht : ∀ H, G.p H → SqL X.K H qa xs) (hx : ∀ H, RpL X.K M H xs ds) : PE X (.Subscript e (.Slice l u none p2) pos) (tC X.K M A δ G (.lst (cutD ds lo hi))) :=
  pe_imp (pe_slice sl_list he hl hu) fun σ H Q ⟨s, q⟩ => ⟨s, fun v H1 k1 b1 r1 => ⟨s.kp k1 b1, fun H2 k2 c2 => ⟨(s.kp k1 b1).kp k2 c2, fun H3 k3 g3 => by
    have k13 := (k1.trans k2).trans k3
    cases r1
    exact ⟨qa, xs, rfl, ht H3 g3, fun p hp => q _ _ (k13.trans (.new hp)) (G.mono (Same.new hp) g3) (.lst upd_same (tr_new (fun m hm => k13.trk m (s.tr m hm)) hp) (Same.newK hp ((hx H3).cut lo hi)))⟩⟩⟩⟩
theorem e_abs {i : Int} (hm : X.mg "abs" = none) (h : PE X e (tC X.K M A δ B (.int i))) (hg : Gl X "abs" := by rfl) (hs : starEach (e :: []) X.env = (false, eval e X.env) :: starEach [] X.env := by rfl) (hpl : (backTo pos (starEach [] X.env)).any (·.1) = false := by rfl) : PE X (.Call (.Name "abs" p) [e] [] pos) (tC X.K M A δ B (.int (if i < 0 then -i else i))) :=
  e_callB call_abs (a_one h hs) (fun H vs c t r Q q => by
    cases r with
    | cons r1 r2 =>
      cases r2
      cases r1
      exact ⟨i, rfl, q _ H (Same.refl H) (.int _)⟩) hm (by decide +kernel) hg (by decide) (by decide) hs hpl
end
end Dx
namespace RQ
open PySem PySem.Spec PyProof.Rows L2 Dx
section
variable {P : Program} {w : World} {K : PySem.W.Frag} {mg : Str → Option Value} {base : Heap}
/-! ### _law_bag -/
def absI (i : Int) : Int := if i < 0 then -i else i
def cellsM (ns : List Int) : Cells := (ns.take 63).map absI
theorem cellsM_ok (ns : List Int) : ∀ x ∈ cellsM ns, (0 : Int) ≤ x := fun x h => by
  obtain ⟨i, _, rfl⟩ := List.mem_map.mp h
  unfold absI
  split <;> omega
def bag0 : Bag := ⟨0, 1234567891, 0⟩
theorem bag0_ok (ns : List Int) : BagOk (cellsM ns) bag0 := ⟨Int.le_refl _, by decide, cellsM_ok ns⟩
def fAbs : D → D
  | .int i => .int (absI i)
  | d => d
def preBag (K : PySem.W.Frag) : AS → Hp → List D → List Addr → (Gh → As) → (Gh → D) → Prop := fun M H ds Sx C d => ∃ (a : Addr) (ns : List Int), ds = [.ref a] ∧ SqL K H a (ns.map V.int) ∧ Sx = [] ∧ C = (fun g => (bagA K (g 0) (g 1) (cellsM ns) bag0).and (As.pure (g 0 ≠ g 1))) ∧ d = fun g => .ref (g 0)
theorem sql_same {H H' : Hp} {a : Addr} {xs : List V} (h : SqL K H a xs) (e : Same H H') : SqL K H' a xs := h.elim (fun h => .inl (h.elim (fun h => .inl (e _ _ h)) fun ⟨o, h⟩ => .inr ⟨o, e _ _ h⟩)) .inr
theorem sc_bag : FnScope ["_law_script", "_law_cell"] ["_law_script"] (defScope s_l_bag) := ⟨rfl, rfl, rfl, by decide +kernel, rfl, by decide +kernel, by decide +kernel⟩
theorem cut_ints (ns : List Int) : Dx.cutD (ns.map D.int) none (some (63 : Int)) = (ns.take 63).map D.int := by
  unfold Dx.cutD
  rw [HT.sIx_none]
  have h := HT.sIx_nat (n := (ns.map D.int).length) (d := (ns.map D.int).length) (k := 63)
  rw [show ((63 : Int)) = ((63 : Nat) : Int) from rfl, h, List.length_map, List.drop_zero, Nat.sub_zero, ← List.map_take]
  by_cases z : 63 ≤ ns.length
  · rw [Nat.min_eq_left z]
  · rw [Nat.min_eq_right (by omega), List.take_of_length_le (Nat.le_refl _), List.take_of_length_le (by omega)]
theorem h_bag (T : Txt K mg) : Has P w K mg base 1 (atG "_law_bag" K) ["_law_script"] (spWG K (preBag K)) := by
  obtain ⟨fd, F⟩ := f_l_bag T
  refine ⟨fd, okWG F sc_bag (fun M H ds Sx C d h => ?_) fun cdv A outer s H E M ds Sx C d hr tr h => ?_, F.bindsN fun _ _ _ _ _ _ us hl => match us, hl with | [_], _ => rfl, F.kp⟩
  · obtain ⟨_, _, rfl, _⟩ := h
    rfl
  · obtain ⟨a, ns, rfl, hsq, rfl, rfl, rfl⟩ := h
    have e0 : (Dx.cutD (ns.map D.int) none (some (63 : Int))).map fAbs = (cellsM ns).map D.int := by
      rw [cut_ints]
      unfold cellsM
      rw [List.map_map, List.map_map]
      rfl
    refine ⟨As.same H, .all fun g => .rt (((As.same H).and ((lstA K (g 0) [.int 0, .int 1234567891, .int 0, .ref (g 1)]).and (lstA K (g 1) ((Dx.cutD (ns.map D.int) none (some (63 : Int))).map fAbs)))).and (As.pure (g 0 ≠ g 1))) (.ref (g 0)), Same.refl H, fun g n H' c => ⟨g, n, .of_same c.1.1, ⟨⟨c.1.2.1, by rw [← e0]; exact c.1.2.2⟩, c.2⟩, rfl⟩, ss_one (s_retG (g_list4 (e_lcMF (own := [("_law_cell", 1)]) (g := gName 1) (js := [1]) (f := fOne 1) (items := Dx.cutD (ns.map D.int) none (some (63 : Int))) fAbs rfl sc_bag.nd (blkOk_by (N := ["_law_script", "_law_cell"]) (sc := defScope s_l_bag) (by decide +kernel)) (i_list (e_qsl (xs := ns.map V.int) (e_var 0) o_none (o_some e_int) (fun H' c => sql_same hsq c) fun H' => RpL.ints ns)) (fun _ _ => trivial) (fun _ _ _ _ _ => pg_name (i := 1) sc_bag.nd rfl (Or.inl rfl)) (tg_name 1) (fun _ h => h) ?z fun M' _ _ d hd => ?tt) (by rw [e0]; exact flatL_ints _)))⟩
    case z =>
      rw [cut_ints, List.length_map, List.length_take]
      exact Nat.lt_of_le_of_lt (Nat.min_le_left _ _) (by decide)
    case tt =>
      rw [cut_ints] at hd
      obtain ⟨i, hi, rfl⟩ := List.mem_map.mp hd
      exact ⟨_, rfl, fun _ _ _ _ _ => e_abs (n_abs T) (e_var 1 (d := .int i))⟩
/-! ### a draw -/
theorem g_draw (T : Txt K mg) : mg "_law_take" = some (.ref (atG "_law_take" K)) := g_law_take T
theorem e_draw {X : Cx} (T : Txt X.K X.mg) {M : AS} {R : As} {δ : LS} {pos p1 : Pos} {e1 e2 : Expr} {p q : Addr} {cells : Cells} {s : Bag} {many : Int} (hr : Room 1 X.A) (hR : ¬ R.L p) (hM : M.c p) (hpq : p ≠ q) (ok : BagOk cells s) (h0 : 0 < many) (h1 : many < 1000)
    (hb : PE X e1 (tC X.K M (R.and (bagA X.K p q cells s)) δ (R.and (bagA X.K p q cells s)) (.ref p))) (hm : PE X e2 (tC X.K M (R.and (bagA X.K p q cells s)) δ (R.and (bagA X.K p q cells s)) (.int many)))
    (hg : Gl X "_law_take" := by rfl) (hs : starEach (e1 :: [e2]) X.env = (false, eval e1 X.env) :: starEach [e2] X.env := by rfl) (hs2 : starEach (e2 :: []) X.env = (false, eval e2 X.env) :: starEach [] X.env := by rfl) (hpl : (backTo pos (starEach [e2] X.env)).any (·.1) = false := by rfl) :
    PE X (.Call (.Name "_law_take" p1) [e1, e2] [] pos) (tC X.K M (R.and (bagA X.K p q cells s)) δ (R.and (bagA X.K p q cells (drawM cells s many).2)) (.int (drawM cells s many).1)) := by
  exact c_call (h_take T) hr (g_draw T) (a_cons hb (a_cons hm a_nil hs2) hs) (spW_ok (fun H c => ⟨p, q, cells, s, many, rfl, c.2, hM, hpq, ok, h0, h1, rfl, rfl, rfl⟩) fun H1 H' c m k => ⟨R.frame m (fun a ha l => absurd (List.mem_singleton.mp ha ▸ l) hR) c.1, k⟩) hg (by decide) hs hpl
end
end RQ
set_option Elab.async false
set_option linter.all false
set_option maxRecDepth 100000
set_option maxHeartbeats 4000000
namespace RQ
open PySem PySem.Spec PyProof.Rows L2 Dx
/-! ### the mirror of _law_lines -/
def menusL : List (Str × Str) := [("order", "oldest weight key"), ("skip", "yes yes yes no"), ("hold", "2 1 3 4 ever link"), ("margin", "0 1 2 3"), ("slow", "0 1 2"), ("fence", "yes no"), ("count", "take fail"), ("tries", "ever 1 2 3 4"), ("dead", "opens closes"), ("once", "no no ever 1 2 3 4 5 6")]
def menuD (m : Str × Str) : D := .tup [.str m.1, .str m.2]
def parts (m : Str) : List Str := Txt.split m " "
def menuI (cells : Cells) (near : Int) (m : Str) (s : Bag) : Int := (drawM cells s ((parts m).length : Nat)).1 * (if near = 0 then (drawM cells (drawM cells s ((parts m).length : Nat)).2 2).1 else 1)
def menuB (cells : Cells) (m : Str) (s : Bag) : Bag := (drawM cells (drawM cells s ((parts m).length : Nat)).2 2).2
def menuX (cells : Cells) (near : Int) (m : Str) (s : Bag) : Str := (parts m).getD (menuI cells near m s).toNat Str.empty
abbrev LSt := Bag × List (Str × D)
def menuF (cells : Cells) (near : Int) (m : Str × Str) (st : LSt) : LSt := (menuB cells m.2 st.1, putT st.2 m.1 (.str (menuX cells near m.2 st.1)))
theorem menus_small : ∀ m ∈ menusL, 0 < (parts m.2).length ∧ (parts m.2).length < 12 ∧ m.2.length ≤ 1000 := by decide +kernel
theorem menuI_ok {cells : Cells} {near : Int} {m : Str} {s : Bag} (h : BagOk cells s) (h0 : 0 < (parts m).length) : 0 ≤ menuI cells near m s ∧ menuI cells near m s < ((parts m).length : Nat) := by
  obtain ⟨k1, k2, k3⟩ := drawM_ok (many := ((parts m).length : Nat)) h (by omega)
  obtain ⟨k4, k5, k6⟩ := drawM_ok (many := 2) k1 (by decide)
  unfold menuI
  by_cases z : near = 0
  · rw [if_pos z]
    generalize (drawM cells (drawM cells s ((parts m).length : Nat)).2 2).1 = v at *
    have : v = 0 ∨ v = 1 := by omega
    rcases this with e | e
    · rw [e]; omega
    · rw [e]; omega
  · rw [if_neg z]
    omega
theorem menuB_ok {cells : Cells} {m : Str} {s : Bag} (h : BagOk cells s) (h0 : 0 < (parts m).length) : BagOk cells (menuB cells m s) := (drawM_ok (many := 2) (drawM_ok (many := ((parts m).length : Nat)) h (by omega)).1 (by decide)).1
/-- texts that the turns give -/
def runS {β : Type} (g : β → Bag → Bag) (h : β → Bag → Str) : List β → Bag → List Str
  | [], _ => []
  | b :: bs, s => h b s :: runS g h bs (g b s)
theorem outs_runS {β : Type} {g : β → Bag → Bag} {h : β → Bag → Str} : ∀ (bs : List β) (s : Bag), outs (fun b s => (g b s, D.str (h b s))) bs s = (runS g h bs s).map D.str
  | [], _ => rfl
  | b :: bs, s => congrArg (D.str (h b s) :: ·) (outs_runS bs (g b s))
def draws {β : Type} (cells : Cells) (many : Int) (bs : List β) (s : Bag) : Bag := bs.foldl (fun s _ => (drawM cells s many).2) s
theorem draws_ok {β : Type} {cells : Cells} {many : Int} (hm : 0 < many) : ∀ {bs : List β} {s : Bag}, BagOk cells s → BagOk cells (draws cells many bs s)
  | [], _, h => h
  | _ :: bs, s, h => draws_ok hm (bs := bs) (drawM_ok h hm).1
def digOf (cells : Cells) (s : Bag) : Str := toString (drawM cells s 4).1
def pauseN (cells : Cells) (s : Bag) : Nat := (1 + (drawM cells s 2).1).toNat
def pauseXs (cells : Cells) (s : Bag) : List Str := runS (fun (_ : Nat) s => (drawM cells s 4).2) (fun _ s => digOf cells s) (List.range (pauseN cells s)) (drawM cells s 2).2
def sortDg : List Str → List Str
  | [a, b] => if sortedS [a, b] = true then [a, b] else [b, a]
  | xs => xs
def pauseX (cells : Cells) (s : Bag) : Str := Txt.join " " (sortDg (pauseXs cells s))
def pauseBg (cells : Cells) (s : Bag) : Bag := draws cells 4 (List.range (pauseN cells s)) (drawM cells s 2).2
theorem dig_ok : ∀ i : Fin 4, (toString (i.val : Int) : Str) ∈ digs := by decide +kernel
theorem digOf_ok {cells : Cells} {s : Bag} (h : BagOk cells s) : digOf cells s ∈ digs := by
  obtain ⟨_, h1, h2⟩ := drawM_ok (many := 4) h (by decide)
  unfold digOf
  generalize (drawM cells s 4).1 = v at *
  have := dig_ok ⟨v.toNat, by omega⟩
  rw [show ((v.toNat : Nat) : Int) = v from Int.toNat_of_nonneg h1] at this
  exact this
theorem pauseXs_ok {cells : Cells} {s : Bag} (h : BagOk cells s) : (∃ a ∈ digs, pauseXs cells s = [a]) ∨ ∃ a ∈ digs, ∃ b ∈ digs, pauseXs cells s = [a, b] := by
  obtain ⟨h0, h1, h2⟩ := drawM_ok (many := 2) h (by decide)
  have hn : pauseN cells s = 1 ∨ pauseN cells s = 2 := by unfold pauseN; omega
  unfold pauseXs
  rcases hn with e | e
  · rw [e]
    exact .inl ⟨_, digOf_ok h0, rfl⟩
  · rw [e]
    exact .inr ⟨_, digOf_ok h0, _, digOf_ok (drawM_ok (many := 4) h0 (by decide)).1, rfl⟩
theorem pause_one : ∀ a ∈ digs, pauseB (Txt.join " " (sortDg [a])) = true ∧ (sortDg [a]).length ≤ 2 ∧ ∀ x ∈ sortDg [a], x.length ≤ 10 := by decide +kernel
theorem pause_two : ∀ a ∈ digs, ∀ b ∈ digs, pauseB (Txt.join " " (sortDg [a, b])) = true ∧ (sortedS [a, b] = true → [a, b] = sortDg [a, b]) ∧ (sortedS [b, a] = true → [b, a] = sortDg [a, b]) ∧ (sortDg [a, b]).length ≤ 2 ∧ ∀ x ∈ sortDg [a, b], x.length ≤ 10 := by decide +kernel
theorem pauseX_ok {cells : Cells} {s : Bag} (h : BagOk cells s) : pauseB (pauseX cells s) = true ∧ (sortDg (pauseXs cells s)).length ≤ 2 ∧ ∀ x ∈ sortDg (pauseXs cells s), x.length ≤ 10 := by
  unfold pauseX
  rcases pauseXs_ok h with ⟨a, ha, e⟩ | ⟨a, ha, b, hb, e⟩
  · rw [e]; exact pause_one a ha
  · rw [e]
    obtain ⟨h1, _, _, h2⟩ := pause_two a ha b hb
    exact ⟨h1, h2⟩
theorem pause_sorted {cells : Cells} {s : Bag} (h : BagOk cells s) (ys : List Str) (hp : ys.Perm (pauseXs cells s)) (hs : sortedS ys = true) : ys = sortDg (pauseXs cells s) := by
  rcases pauseXs_ok h with ⟨a, ha, e⟩ | ⟨a, ha, b, hb, e⟩
  · rw [e] at hp ⊢
    exact List.perm_singleton.mp hp
  · rw [e] at hp ⊢
    have hl := hp.length_eq
    obtain ⟨_, k1, k2, _⟩ := pause_two a ha b hb
    match ys, hl, hp, hs with
    | [x, y], _, hp, hs =>
      have hx : x ∈ [a, b] := hp.mem_iff.mp (by simp)
      rcases List.mem_cons.mp hx with z | z
      · subst z
        have := (List.perm_cons x).mp hp
        have := List.perm_singleton.mp this
        cases this
        exact k1 hs
      · have z := List.mem_singleton.mp z
        subst z
        have h2 := hp.trans (List.Perm.swap x a [])
        have := List.perm_singleton.mp ((List.perm_cons x).mp h2)
        cases this
        exact k2 hs
theorem pauseN_ok {cells : Cells} {s : Bag} (h : BagOk cells s) : pauseN cells s ≤ 2 ∧ ((pauseN cells s : Nat) : Int) = 1 + (drawM cells s 2).1 := by
  obtain ⟨h0, h1, h2⟩ := drawM_ok (many := 2) h (by decide)
  unfold pauseN
  omega
/-- the words of a plan, put in one by one -/
def wordsM (cells : Cells) (s : Bag) : List Str := ([("effect" : Str), "finish"] ++ List.replicate (drawM cells s 2).1.toNat ("check" : Str)) ++ List.replicate (if (drawM cells (drawM cells s 2).2 4).1 = 0 then 1 else 0) ("follow" : Str)
def wordsB (cells : Cells) (s : Bag) : Bag := (drawM cells (drawM cells s 2).2 4).2
abbrev TSt := Bag × List Str
def insF (cells : Cells) (x : Str) (st : TSt) : TSt := ((drawM cells st.1 ((st.2.length : Int) + 1)).2, st.2.take (drawM cells st.1 ((st.2.length : Int) + 1)).1.toNat ++ [x] ++ st.2.drop (drawM cells st.1 ((st.2.length : Int) + 1)).1.toNat)
def turnedM (cells : Cells) (s : Bag) : TSt := (wordsM cells s).foldl (fun st x => insF cells x st) (wordsB cells s, [])
def sepsL : List Str := [" ", " ", "+"]
def sepOf (cells : Cells) (s : Bag) : Str := sepsL.getD (drawM cells s 3).1.toNat Str.empty
def planPs (cells : Cells) (xs : List Str) (s : Bag) : List Str := runS (fun (_ : Str) s => (drawM cells s 3).2) (fun x s => sepOf cells s ++ x) xs s
def planX (cells : Cells) (st : TSt) : Str := ("take " : Str) ++ st.2.headD Str.empty ++ Txt.join "" (planPs cells (st.2.drop 1) st.1)
def planB (cells : Cells) (st : TSt) : Bag := draws cells 3 (st.2.drop 1) st.1
def linesM (cells : Cells) (s : Bag) : LSt :=
  let st1 := menusL.foldl (fun st m => menuF cells (drawM cells s 3).1 m st) ((drawM cells s 3).2, [])
  let es2 := putT st1.2 "pause" (.str (pauseX cells st1.1))
  let tu := turnedM cells (pauseBg cells st1.1)
  (planB cells tu, putT es2 "plan" (.str (planX cells tu)))
end RQ
set_option Elab.async false
set_option linter.all false
set_option maxRecDepth 100000
set_option maxHeartbeats 4000000
namespace RQ
open PySem PySem.Spec PyProof.Rows L2 Dx
theorem join_len : ∀ ps : List Str, (Str.join "" ps).length = (ps.map (·.length)).sum
  | [] => rfl
  | [p] => by
    show p.length = p.length + 0
    omega
  | p :: q :: r => by
    have ih := join_len (q :: r)
    show (p ++ "" ++ Str.join "" (q :: r)).length = p.length + ((q :: r).map (·.length)).sum
    rw [Str.length_append, Str.length_append, ih]
    have e : ("" : Str).length = 0 := rfl
    rw [e]
    omega
theorem near_at {v near : Int} (h0 : 0 ≤ near) (h3 : near < 3) : atI [D.int v, .int 1, .int 1] near = some (.int (if near = 0 then v else 1)) := by
  have : near = 0 ∨ near = 1 ∨ near = 2 := by omega
  rcases this with e | e | e <;> subst e <;> rfl
theorem at_strs {xs : List Str} {i : Int} (h0 : 0 ≤ i) (h1 : i < (xs.length : Nat)) : atI (xs.map D.str) i = some (.str (xs.getD i.toNat Str.empty)) := by
  have hlt : i.toNat < xs.length := by omega
  have e : ((i.toNat : Nat) : Int) = i := Int.toNat_of_nonneg h0
  rw [← e]
  refine atI_nat ?_
  rw [List.getElem?_map, Int.toNat_natCast, List.getD_eq_getElem?_getD, List.getElem?_eq_getElem hlt] <;> rfl
theorem rep_one {α : Type} (x : α) : ∀ n : Nat, (List.replicate n [x]).flatten = List.replicate n x
  | 0 => rfl
  | n + 1 => by
    rw [List.replicate_succ, List.flatten_cons, rep_one x n] <;> rfl
/-- what is put in at a place -/
theorem insF_mem {cells : Cells} {x y : Str} {st : TSt} (h : y ∈ (insF cells x st).2) : y = x ∨ y ∈ st.2 := by
  unfold insF at h
  rcases List.mem_append.mp h with h | h
  · rcases List.mem_append.mp h with h | h
    · exact .inr (List.mem_of_mem_take h)
    · exact .inl (List.mem_singleton.mp h)
  · exact .inr (List.mem_of_mem_drop h)
theorem insF_len {cells : Cells} {x : Str} {st : TSt} : (insF cells x st).2.length = st.2.length + 1 := by
  unfold insF
  rw [List.length_append, List.length_append, List.length_take, List.length_drop, List.length_singleton]
  omega
theorem insF_ok {cells : Cells} {x : Str} {st : TSt} (h : BagOk cells st.1) : BagOk cells (insF cells x st).1 := (drawM_ok (many := (st.2.length : Int) + 1) h (by omega)).1
structure TurnedOk (cells : Cells) (st : TSt) (n : Nat) : Prop where
  bag : BagOk cells st.1
  len : st.2.length = n
  mem : ∀ x ∈ st.2, x ∈ wordsL
theorem wordsM_ok {cells : Cells} {s : Bag} (h : BagOk cells s) : (wordsM cells s).length ≤ 4 ∧ 2 ≤ (wordsM cells s).length ∧ (∀ x ∈ wordsM cells s, x ∈ wordsL) ∧ BagOk cells (wordsB cells s) := by
  obtain ⟨h0, h1, h2⟩ := drawM_ok (many := 2) h (by decide)
  obtain ⟨h3, h4, h5⟩ := drawM_ok (many := 4) h0 (by decide)
  unfold wordsM wordsB
  refine ⟨?_, ?_, fun x hx => ?_, h3⟩
  · rw [List.length_append, List.length_append, List.length_replicate, List.length_replicate]
    show 2 + _ + _ ≤ 4
    split <;> omega
  · rw [List.length_append, List.length_append]
    show 2 ≤ 2 + _ + _
    omega
  · rcases List.mem_append.mp hx with hx | hx
    · rcases List.mem_append.mp hx with hx | hx
      · rcases List.mem_cons.mp hx with e | e
        · rw [e]; decide +kernel
        · rw [List.mem_singleton.mp e]; decide +kernel
      · rw [(List.mem_replicate.mp hx).2]; decide +kernel
    · rw [(List.mem_replicate.mp hx).2]; decide +kernel
theorem ins_all {cells : Cells} : ∀ (xs : List Str) (st : TSt) (n : Nat), TurnedOk cells st n → (∀ x ∈ xs, x ∈ wordsL) → TurnedOk cells (xs.foldl (fun st x => insF cells x st) st) (n + xs.length)
  | [], st, n, h, _ => h
  | x :: xs, st, n, h, k => by
    have := ins_all xs (insF cells x st) (n + 1) ⟨insF_ok h.bag, by rw [insF_len, h.len], fun y hy => (insF_mem hy).elim (fun e => e ▸ k x (by simp)) (h.mem y)⟩ fun y hy => k y (by simp [hy])
    rw [List.length_cons, show n + (xs.length + 1) = n + 1 + xs.length by omega]
    exact this
theorem turnedM_ok {cells : Cells} {s : Bag} (h : BagOk cells s) : TurnedOk cells (turnedM cells s) (wordsM cells s).length := by
  obtain ⟨h1, h2, h3, h4⟩ := wordsM_ok h
  have := ins_all (wordsM cells s) (wordsB cells s, []) 0 ⟨h4, rfl, fun x hx => by cases hx⟩ h3
  rw [Nat.zero_add] at this
  exact this
theorem words_len : ∀ x ∈ wordsL, x.length ≤ 6 := by decide +kernel
theorem seps_len : ∀ x ∈ sepsL, x.length ≤ 1 := by decide +kernel
theorem sepOf_mem {cells : Cells} {s : Bag} (h : BagOk cells s) : sepOf cells s ∈ sepsL := by
  obtain ⟨_, h1, h2⟩ := drawM_ok (many := 3) h (by decide)
  have hlt : (drawM cells s 3).1.toNat < sepsL.length := by show _ < 3; omega
  unfold sepOf
  rw [List.getD_eq_getElem?_getD, List.getElem?_eq_getElem hlt]
  exact List.getElem_mem _
theorem planPs_len {cells : Cells} : ∀ (xs : List Str) (s : Bag), BagOk cells s → (∀ x ∈ xs, x ∈ wordsL) → (planPs cells xs s).length = xs.length ∧ ((planPs cells xs s).map (·.length)).sum ≤ 7 * xs.length
  | [], _, _, _ => ⟨rfl, Nat.le_refl _⟩
  | x :: xs, s, h, k => by
    obtain ⟨h1, h2⟩ := planPs_len xs _ (drawM_ok (many := 3) h (by decide)).1 fun y hy => k y (by simp [hy])
    have k1 := words_len x (k x (by simp))
    have k2 := seps_len _ (sepOf_mem h)
    refine ⟨congrArg (· + 1) h1, ?_⟩
    show (sepOf cells s ++ x).length + ((planPs cells xs (drawM cells s 3).2).map (·.length)).sum ≤ 7 * (xs.length + 1)
    have e : (sepOf cells s ++ x).length = (sepOf cells s).length + x.length := Str.length_append _ _
    rw [e]
    omega
section
variable {P : Program} {w : World} {K : PySem.W.Frag} {mg : Str → Option Value} {base : Heap}
abbrev NL : List Str := ["_law_bag_here", "_law_menus", "_law_near", "_law_found", "_law_turned", "_law_word", "_law_menu", "_law_some_here", "_law_k"]
theorem sc_lines : FnScope NL ["_law_bag_here"] (defScope s_l_lines) := ⟨rfl, rfl, rfl, by decide +kernel, rfl, by decide +kernel, by decide +kernel⟩
def preLines (K : PySem.W.Frag) : AS → Hp → List D → List Addr → (Gh → As) → (Gh → D) → Prop := fun M H ds Sx C d => ∃ (p q : Addr) (cells : Cells) (s : Bag), ds = [.ref p] ∧ (bagA K p q cells s).p H ∧ M.c p ∧ p ≠ q ∧ BagOk cells s ∧ Sx = [p] ∧
  C = (fun g => (tabA K (g 0) (linesM cells s).2).and (bagA K p q cells (linesM cells s).1)) ∧ d = fun g => .ref (g 0)
def linF (K : PySem.W.Frag) (H : Hp) (p t r : Addr) (es : List (Str × D)) (xs : List Str) : As := (As.mv [p] H).and ((tabA K t es).and (lstA K r (xs.map D.str)))
def linA (K : PySem.W.Frag) (H : Hp) (p q t r : Addr) (cells : Cells) (s : Bag) (es : List (Str × D)) (xs : List Str) : As := (linF K H p t r es xs).and (bagA K p q cells s)
theorem h_lines (T : Txt K mg) : Has P w K mg base 2 (atG "_law_lines" K) ["_law_bag_here"] (spWG K (preLines K)) := by
  obtain ⟨fd, F⟩ := f_l_lines T
  refine ⟨fd, okWG F sc_lines (fun M H ds Sx C d h => ?_) fun cdv A outer s H E M ds Sx C d hr tr h => ?_, F.bindsN fun _ _ _ _ _ _ us hl => match us, hl with | [_], _ => rfl, F.kp⟩
  · obtain ⟨_, _, _, _, rfl, _⟩ := h
    rfl
  · obtain ⟨p, q, cells, s0, rfl, hb, hM, hpq, ok0, rfl, rfl, rfl⟩ := h
    obtain ⟨ok1, hn0, hn3⟩ := drawM_ok (many := 3) ok0 (by decide)
    obtain ⟨near, hnear⟩ : ∃ x, x = (drawM cells s0 3).1 := ⟨_, rfl⟩
    obtain ⟨s1, hs1⟩ : ∃ x, x = (drawM cells s0 3).2 := ⟨_, rfl⟩
    obtain ⟨st1, hst1⟩ : ∃ x, x = menusL.foldl (fun st m => menuF cells near m st) (s1, []) := ⟨_, rfl⟩
    obtain ⟨tu, htu⟩ : ∃ x, x = turnedM cells (pauseBg cells st1.1) := ⟨_, rfl⟩
    obtain ⟨es2, hes2⟩ : ∃ x, x = putT st1.2 "pause" (.str (pauseX cells st1.1)) := ⟨_, rfl⟩
    obtain ⟨es3, hes3⟩ : ∃ x, x = putT es2 "plan" (.str (planX cells tu)) := ⟨_, rfl⟩
    have hL : linesM cells s0 = (planB cells tu, es3) := by
      rw [hes3, hes2, htu, hst1, hs1, hnear] <;> rfl
    rw [hL]
    rw [← hs1] at ok1
    rw [← hnear] at hn0 hn3
    refine ⟨(As.mv [p] H).and (bagA K p q cells s0), .all fun g => .rt (linA K H p q (g 0) (g 1) cells (planB cells tu) es3 tu.2) (.ref (g 0)), ⟨.refl H, hb⟩, fun g n H' c => ⟨g, n, c.1.1, ⟨c.1.2.1, c.2⟩, rfl⟩, ?_⟩
    have hR0 : ¬ (As.mv [p] H).L p := fun z => z.2 (by simp)
    refine ss_cons (s_set 1 sc_lines.nd (e_lst (a_cons (e_tup (a_cons e_str (a_one e_str))) (a_cons (e_tup (a_cons e_str (a_one e_str))) (a_one (e_tup (a_cons e_str (a_one e_str))))))))
      (ss_cons (s_set 1 sc_lines.nd (e_cat (e_var 1) (e_lst (a_cons (e_tup (a_cons e_str (a_one e_str))) (a_cons (e_tup (a_cons e_str (a_one e_str))) (a_cons (e_tup (a_cons e_str (a_one e_str))) (a_one (e_tup (a_cons e_str (a_one e_str)))))))) (by show 3 + 4 ≤ sizeLine; decide)))
      (ss_cons (s_set 1 sc_lines.nd (e_is (d' := .lst (menusL.map menuD)) (e_cat (e_var 1) (e_lst (a_cons (e_tup (a_cons e_str (a_one e_str))) (a_cons (e_tup (a_cons e_str (a_one e_str))) (a_one (e_tup (a_cons e_str (a_one e_str))))))) (by show 7 + 3 ≤ sizeLine; decide)) rfl))
      (ss_ownG [1] id (f_par3 2 3 4 rfl sc_lines.nd rfl rfl rfl (by decide) (by decide) (by decide) rfl rfl rfl (a_consC (d := .int near) (B := (As.mv [p] H).and (bagA K p q cells s1)) ?dr (a_consGG (g_fresh e_new0) fun g => a_oneG (g_fresh e_newL))) (fun _ => rfl) (fun _ => rfl) (fun _ => rfl) rfl) (fun g H' c j hj => ?trk) fun g nM => ?rest)))
    case dr =>
      rw [hnear, hs1]
      exact e_draw T hr hR0 hM hpq ok0 (by decide) (by decide) (e_var 0) e_int
    case trk =>
      cases List.mem_singleton.mp hj
      exact (lstA K (g 1) []).trk c.1.2 rfl
    case rest =>
      have hM1 : (M.owns ([1].map g)).c p := .inl hM
      have hM2 : (M.owns ([1].map g)).c (g 1) := .inr (by simp)
      show PSs _ _ (tO _ _ _ [some (.ref p), some (.lst (menusL.map menuD)), some (.int near), some (.ref (g 0)), some (.ref (g 1)), none, none, none, none] (.rt (linA K H p q (g 0) (g 1) cells (planB cells tu) es3 tu.2) (.ref (g 0))))
      refine ss_pure (φ := g 0 ≠ p ∧ g 1 ≠ p ∧ g 1 ≠ g 0 ∧ ¬ (As.mv [p] H).L (g 1) ∧ g 1 ≠ q ∧ ¬ (As.mv [p] H).L (g 0)) (fun H' c => ?ph) fun ⟨n1, n2, n3, n4, n5, n6⟩ => ss_from (B := linA K H p q (g 0) (g 1) cells s1 [] []) ?go fun H' c => ⟨⟨c.1.1.1.1.1, c.1.1.1.2, c.1.2⟩, c.1.1.1.1.2⟩
      case ph =>
        have hf := c.2 0
        exact ⟨fun z => c.1.1.2 0 (.inr (.inl z)), fun z => hf (.inl (.inl (.inr (.inl z)))), fun z => hf (.inl (.inr z)), fun z => hf (.inl (.inl (.inl z))), fun z => hf (.inl (.inl (.inr (.inr z)))), fun z => c.1.1.2 0 (.inl z)⟩
      generalize g 0 = t at *
      generalize g 1 = r at *
      have ht : H t = none := by
        cases e : H t with
        | none => rfl
        | some o => exact absurd ⟨(by rw [e]; exact fun z => (by cases z)), fun z => n1 (List.mem_singleton.mp z)⟩ n6
      have hRp : ∀ es xs, ¬ (linF K H p t r es xs).L p := fun es xs z => z.elim hR0 fun z => z.elim (fun z => n1 z.symm) fun z => n2 z.symm
      have hstab : ∀ (s : Bag) (es : List (Str × D)) (xs : List Str) {H' : Hp} {ys zs : List V}, H' r = some (.lst ys) → (linA K H p q t r cells s es xs).p H' → ∀ xs', (lstA K r (xs'.map D.str)).p (upd H' r (.lst zs)) → (linA K H p q t r cells s es xs').p (upd H' r (.lst zs)) := fun s es xs H' ys zs e c xs' l =>
        ⟨⟨(As.mv [p] H).stab e n4 c.1.1, (tabA K t es).stab e (fun z => n3 z) c.1.2.1, l⟩, (bagA K p q cells s).stab e (fun z => z.elim n2 n5) c.2⟩
      have htab : ∀ (s : Bag) (es es' : List (Str × D)) (xs : List Str) {H' : Hp} {u : HO}, (linA K H p q t r cells s es xs).p H' → (tabA K t es').p (upd H' t u) → Fr (fun a => a ≠ t) H' (upd H' t u) → (linA K H p q t r cells s es' xs).p (upd H' t u) := fun s es es' xs H' u c i f =>
        ⟨⟨mv_putN c.1.1 ht f, i, (lstA K r _).fr (f.less fun a (l : a = r) z => n3 (l.symm.trans z)) c.1.2.2⟩, (bagA K p q cells s).fr (f.less fun a l z => l.elim (fun l => n1 (z.symm.trans l)) fun l => by
          have l : a = q := l
          obtain ⟨kvs, h1, _⟩ := c.1.2.1
          obtain ⟨_, ys, h2, _⟩ := c.2.2
          rw [← z, l, h2] at h1
          cases h1) c.2⟩
      let δ0 : LS := [some (.ref p), some (.lst (menusL.map menuD)), some (.int near), some (.ref t), some (.ref r), none, none, none, none]
      refine ss_cons (B := linA K H p q t r cells st1.1 st1.2 []) (δ' := δ0) ?loop1 (ss_pure (φ := BagOk cells st1.1 ∧ st1.2.length ≤ 10) (fun _ _ => ?inv1) fun ⟨ok2, hz2⟩ => ss_cons (B := linA K H p q t r cells (pauseBg cells st1.1) es2 []) (δ' := δ0) ?pause (ss_cons (B := linA K H p q t r cells tu.1 es2 tu.2) (δ' := δ0) ?loop2 (ss_cons (B := linA K H p q t r cells (planB cells tu) es3 tu.2) (δ' := δ0) ?plan (ss_one (s_ret (e_var 3))))))
      case inv1 =>
        have key : ∀ (l : List (Str × Str)), (∀ m ∈ l, 0 < (parts m.2).length) → ∀ st : LSt, BagOk cells st.1 → BagOk cells (l.foldl (fun st m => menuF cells near m st) st).1 ∧ (l.foldl (fun st m => menuF cells near m st) st).2.length ≤ st.2.length + l.length := by
          intro l
          induction l with
          | nil => exact fun _ st h => ⟨h, Nat.le_refl _⟩
          | cons m l ih =>
            intro hl st h
            obtain ⟨k1, k2⟩ := ih (fun m hm => hl m (by simp [hm])) (menuF cells near m st) (menuB_ok h (hl m (by simp)))
            refine ⟨k1, Nat.le_trans k2 ?_⟩
            have := putT_len st.2 m.1 (.str (menuX cells near m.2 st.1))
            show (putT st.2 m.1 (.str (menuX cells near m.2 st.1))).length + l.length ≤ st.2.length + (l.length + 1)
            omega
        rw [hst1]
        exact key menusL (fun m hm => (menus_small m hm).1) (s1, []) ok1
      case loop1 =>
        rw [hst1]
        exact s_forF (menuF cells near) menuD (fun st => linA K H p q t r cells st.1 st.2 []) (fun _ => δ0) (fun i st => BagOk cells st.1 ∧ st.2.length ≤ i) menusL (s1, []) PassesOwn.never rfl (i_list (e_var 1)) (fun _ _ _ => trivial) rfl ⟨ok1, Nat.zero_le _⟩ (pg_tup rfl (pgs_cons (pg_name (i := 5) sc_lines.nd rfl (Or.inl rfl)) (pgs_cons (pg_name (i := 6) sc_lines.nd rfl (Or.inl rfl)) pgs_nil))) (tg_pair 5 6) fun i m st hb hP => by
          obtain ⟨hs0, hs12, hs1000⟩ := menus_small m (List.mem_of_getElem? hb)
          obtain ⟨k1, k2, k3⟩ := drawM_ok (many := ((parts m.2).length : Nat)) hP.1 (by omega)
          obtain ⟨m1, m2⟩ := menuI_ok (near := near) hP.1 hs0
          have hi10 : i < 10 := (List.getElem?_eq_some_iff.mp hb).1
          refine ⟨_, rfl, ⟨menuB_ok hP.1 hs0, Nat.le_trans (putT_len _ _ _) (Nat.succ_le_succ hP.2)⟩, ?_⟩
          exact ss_forget 5 (ss_forget 6 (ss_forget 7 (ss_cons (s_set 7 sc_lines.nd (e_split (e_var 6 (d := .str m.2)) e_str rfl (Nat.le_trans (Nat.add_le_add_right hs1000 2) (by decide))))
            (ss_one (s_tput (B := linA K H p q t r cells (menuB cells m.2 st.1) st.2 []) (C := linA K H p q t r cells (menuB cells m.2 st.1) st.2 []) (G := linA K H p q t r cells (menuB cells m.2 st.1) st.2 []) (hu_of hr)
              (e_ixL (e_var 7 (d := .lst ((parts m.2).map D.str))) (e_mul (e_draw (R := linF K H p t r st.2 []) T hr (hRp _ _) hM1 hpq hP.1 (by omega) (by omega) (e_var 0) (e_is (e_lenL (n_len T) (e_var 7 (d := .lst ((parts m.2).map D.str)))) (by rw [List.length_map])))
                (e_ixL (e_lst (a_cons (e_draw (R := linF K H p t r st.2 []) T hr (hRp _ _) hM1 hpq k1 (by decide) (by decide) (e_var 0) e_int) (a_cons e_int (a_one e_int)))) (e_var 2) (near_at hn0 hn3)) (.inl ⟨by omega, by omega⟩)) (at_strs m1 m2))
              (e_var 3) (e_var 5) (fun H' c => c.1.2.1) rfl (by exact Nat.lt_of_le_of_lt hP.2 (Nat.lt_trans hi10 (by decide))) fun H' u c i f => htab _ _ _ _ c i f)))))
      case pause =>
        rw [hes2]
        obtain ⟨pk1, pk2, pk3⟩ := drawM_ok (many := 2) ok2 (by decide)
        obtain ⟨hpn, hpe⟩ := pauseN_ok ok2
        obtain ⟨_, hl2, hl10⟩ := pauseX_ok ok2
        refine s_tput (B := linA K H p q t r cells (pauseBg cells st1.1) st1.2 []) (C := linA K H p q t r cells (pauseBg cells st1.1) st1.2 []) (G := linA K H p q t r cells (pauseBg cells st1.1) st1.2 []) (hu_of hr)
          (e_join e_str (e_sortedS (n_sorted T) ?psz (pause_sorted ok2) ?hcomp) ?jz) (e_var 3) e_str (fun H' c => c.1.2.1) rfl (by exact Nat.lt_of_le_of_lt hz2 (by decide)) fun H' u c i f => htab _ _ _ _ c i f
        case psz =>
          have := outs_len (fun (_ : Nat) s => ((drawM cells s 4).2, D.str (digOf cells s))) (List.range (pauseN cells st1.1)) (drawM cells st1.1 2).2
          rw [outs_runS, List.length_map, List.length_range] at this
          show (pauseXs cells st1.1).length < 64
          unfold pauseXs
          rw [this]
          omega
        case hcomp =>
          exact e_is (d' := .lst ((pauseXs cells st1.1).map D.str)) (e_lcF (own := [("_law_k", 8)]) (g := gName 8) (js := [8]) (tf := fOne 8) (fun (_ : Nat) s => ((drawM cells s 4).2, D.str (digOf cells s))) (fun i => D.int (i : Nat)) (fun s => linA K H p q t r cells s st1.2 []) (fun _ s => BagOk cells s) (List.range (pauseN cells st1.1)) (drawM cells st1.1 2).2 rfl sc_lines.nd (blkOk_by (N := NL) (sc := defScope s_l_lines) (by decide +kernel)) (i_range (q0 := ⟨0, 0, 0, 0⟩) (n_range T) (e_add e_int (e_draw (R := linF K H p t r st1.2 []) T hr (hRp _ _) hM1 hpq ok2 (by decide) (by decide) (e_var 0) e_int)) (by omega) (by omega)) (fun _ _ _ => trivial) (fun _ _ _ _ _ => pg_name (i := 8) sc_lines.nd rfl (Or.inl rfl)) (tg_name 8) (fun _ h => h) (fun _ _ h => h) (by rw [List.length_range]; exact Nat.lt_of_le_of_lt hpn (by decide)) pk1 fun M' hx hc i b s hb hP => by
            obtain ⟨d1, d2, d3⟩ := drawM_ok (many := 4) hP (by decide)
            refine ⟨d1, _, rfl, fun _ _ _ _ _ => e_strI (n_str T) ?_ (e_draw (R := linF K H p t r st1.2 []) T hr (hRp _ _) (by rw [hc]; exact hM1) hpq hP (by decide) (by decide) (e_var 0) e_int)⟩
            generalize (drawM cells s 4).1 = v at *
            have : v.natAbs ≤ 3 := by omega
            exact Nat.lt_of_le_of_lt (Nat.log2_le_self _) (by omega)) (by rw [outs_runS] <;> rfl)
        have key : ∀ l : List Str, (∀ x ∈ l, x.length ≤ 10) → (l.map (·.length)).sum ≤ 10 * l.length := by
          intro l
          induction l with
          | nil => exact fun _ => Nat.le_refl _
          | cons x l ih =>
            intro h
            have h1 := ih fun y hy => h y (by simp [hy])
            have h2 := h x (by simp)
            show x.length + (l.map (·.length)).sum ≤ 10 * (l.length + 1)
            omega
        have := key _ hl10
        have e1 : (" " : Str).length = 1 := rfl
        rw [e1]
        omega
      case loop2 =>
        have okp : BagOk cells (pauseBg cells st1.1) := draws_ok (by decide) (drawM_ok (many := 2) ok2 (by decide)).1
        obtain ⟨w1, w2, w3, w4⟩ := wordsM_ok okp
        obtain ⟨d1, d2, d3⟩ := drawM_ok (many := 2) okp (by decide)
        obtain ⟨d4, d5, d6⟩ := drawM_ok (many := 4) d1 (by decide)
        rw [htu]
        refine s_forF (insF cells) D.str (fun st => linA K H p q t r cells st.1 es2 st.2) (fun _ => δ0) (fun i st => BagOk cells st.1 ∧ st.2.length = i) (wordsM cells (pauseBg cells st1.1)) (wordsB cells (pauseBg cells st1.1), []) PassesOwn.never rfl
          (i_list (e_is (e_cat (e_cat (e_lst (a_cons e_str (a_one e_str))) (e_rep (e_lst (a_one e_str)) (e_draw (R := linF K H p t r es2 []) T hr (hRp _ _) hM1 hpq okp (by decide) (by decide) (e_var 0) e_int) (by omega) (by omega) ?z1) ?z2) (e_rep (e_lst (a_one e_str)) (e_intB (n_int T) (e_eqI (e_draw (R := linF K H p t r es2 []) T hr (hRp _ _) hM1 hpq d1 (by decide) (by decide) (e_var 0) e_int) (e_int (i := 0)))) ?z3 ?z4 ?z5) ?z6) ?ew)) (fun _ _ _ => trivial) rfl ⟨w4, rfl⟩ (pg_name (i := 5) sc_lines.nd rfl (Or.inl rfl)) (tg_name 5) fun i x st hb hP => by
            have hi4 : i < 4 := Nat.lt_of_lt_of_le (List.getElem?_eq_some_iff.mp hb).1 w1
            obtain ⟨hB, hlen⟩ := hP
            obtain ⟨f1, f2, f3⟩ := drawM_ok (many := (st.2.length : Int) + 1) hB (by omega)
            refine ⟨_, rfl, ⟨insF_ok hB, by rw [insF_len, hlen]⟩, ?_⟩
            have em : (insF cells x st).2.map D.str = (st.2.map D.str).take (drawM cells st.1 ((st.2.length : Int) + 1)).1.toNat ++ [.str x] ++ (st.2.map D.str).drop (drawM cells st.1 ((st.2.length : Int) + 1)).1.toNat := by
              unfold insF
              rw [List.map_append, List.map_append, List.map_take, List.map_drop] <;> rfl
            refine ss_forget 5 (ss_one (s_oins (ds := st.2.map D.str) (k := (drawM cells st.1 ((st.2.length : Int) + 1)).1.toNat) (B := linA K H p q t r cells (insF cells x st).1 es2 st.2) (C := linA K H p q t r cells (insF cells x st).1 es2 st.2) (e_var 4) (e_is (e_draw (R := linF K H p t r es2 st.2) T hr (hRp _ _) hM1 hpq hB (by omega) (by omega) (e_var 0) (e_is (e_add (e_olen (n_len T) (e_var 4) fun H' c => c.1.2.2) e_int) (by rw [List.length_map]))) (by rw [Int.toNat_of_nonneg f2])) (e_var 5) hM2 (fun H' c => c.1.2.2) (fun H' c => c.1.2.2) rfl (by omega) (by rw [List.length_map, hlen]; exact Nat.lt_trans hi4 (by decide)) fun H' ys zs c e l => hstab _ _ _ e c _ (by rw [em]; exact l)))
        case z1 =>
          show 1 * _ ≤ sizeLine
          exact Nat.le_trans (show _ ≤ 2 by omega) (by decide)
        case z2 =>
          rw [rep_one, List.length_replicate]
          show 2 + _ ≤ sizeLine
          exact Nat.le_trans (show _ ≤ 4 by omega) (by decide)
        case z3 => split <;> decide
        case z4 => split <;> decide
        case z5 =>
          show 1 * _ ≤ sizeLine
          split <;> decide
        case z6 =>
          rw [rep_one, rep_one, List.length_append, List.length_replicate, List.length_replicate]
          show 2 + _ + _ ≤ sizeLine
          refine Nat.le_trans (show _ ≤ 8 from ?_) (by decide)
          split
          · show 2 + _ + 1 ≤ 8; omega
          · show 2 + _ + 0 ≤ 8; omega
        case ew =>
          rw [rep_one, rep_one]
          unfold wordsM
          rw [List.map_append, List.map_append, List.map_replicate, List.map_replicate]
          refine congrArg D.lst ?_
          show _ ++ List.replicate (Int.toNat (if decide ((drawM cells (drawM cells (pauseBg cells st1.1) 2).2 4).1 = 0) = true then 1 else 0)) _ = _
          by_cases z : (drawM cells (drawM cells (pauseBg cells st1.1) 2).2 4).1 = 0
          · rw [if_pos z, if_pos (decide_eq_true z)] <;> rfl
          · rw [if_neg z, if_neg (by rw [decide_eq_false z]; decide)] <;> rfl
      case plan =>
        rw [hes3]
        have okp : BagOk cells (pauseBg cells st1.1) := draws_ok (by decide) (drawM_ok (many := 2) ok2 (by decide)).1
        obtain ⟨w1, w2, w3, w4⟩ := wordsM_ok okp
        have tok := turnedM_ok okp
        rw [← htu] at tok
        have hlen : tu.2.length ≤ 4 ∧ 2 ≤ tu.2.length := by rw [tok.len]; exact ⟨w1, w2⟩
        have hcut : Dx.cutD (tu.2.map D.str) (some (1 : Int)) none = (tu.2.drop 1).map D.str := by
          have := cut_drop (tu.2.map D.str) 1 (by rw [List.length_map]; omega)
          rw [← List.map_drop] at this
          exact this
        have hd0 : tu.2.head? = some (tu.2.headD Str.empty) := by
          cases e : tu.2 with
          | nil => rw [e] at hlen; exact absurd hlen.2 (by decide)
          | cons x xs => rfl
        have hx0 : tu.2.headD Str.empty ∈ tu.2 := List.mem_of_mem_head? hd0
        have hl0 := words_len _ (tok.mem _ hx0)
        have hmd : ∀ x ∈ tu.2.drop 1, x ∈ wordsL := fun x hx => tok.mem x (List.mem_of_mem_drop hx)
        obtain ⟨pl1, pl2⟩ := planPs_len (tu.2.drop 1) tu.1 tok.bag hmd
        have hdl : (tu.2.drop 1).length ≤ 4 := by rw [List.length_drop]; omega
        refine s_tput (B := linA K H p q t r cells (planB cells tu) es2 tu.2) (C := linA K H p q t r cells (planB cells tu) es2 tu.2) (G := linA K H p q t r cells (planB cells tu) es2 tu.2) (hu_of hr)
          (e_adds (e_adds e_str (e_oix (B := linA K H p q t r cells tu.1 es2 tu.2) (C := linA K H p q t r cells tu.1 es2 tu.2) (d := .str (tu.2.headD Str.empty)) (e_var 4) e_int (fun H' c => c.1.2.2) ?a0) ?l1) (e_join (ys := planPs cells (tu.2.drop 1) tu.1) e_str ?hcomp2 ?jz2) ?l2) (e_var 3) e_str (fun H' c => c.1.2.1) rfl ?lz fun H' u c i f => htab _ _ _ _ c i f
        case a0 =>
          refine atI_nat (j := 0) ?_
          rw [List.getElem?_map, ← List.head?_eq_getElem?, hd0] <;> rfl
        case l1 =>
          show 5 + _ ≤ sizeLine
          exact Nat.le_trans (show _ ≤ 11 by omega) (by decide)
        case jz2 =>
          have e1 : ("" : Str).length = 0 := rfl
          rw [e1]
          omega
        case l2 =>
          have e2 : (("take " : Str) ++ tu.2.headD Str.empty).length = ("take " : Str).length + (tu.2.headD Str.empty).length := Str.length_append _ _
          have e3 : (Txt.join "" (planPs cells (tu.2.drop 1) tu.1)).length = ((planPs cells (tu.2.drop 1) tu.1).map (·.length)).sum := by rw [TL.join_eq]; exact join_len _
          rw [e2, e3]
          show 5 + _ + _ ≤ sizeLine
          exact Nat.le_trans (show _ ≤ 100 by omega) (by decide)
        case lz =>
          rw [hes2]
          have := putT_len st1.2 ("pause" : Str) (.str (pauseX cells st1.1))
          exact Nat.lt_of_le_of_lt (show _ ≤ 11 by omega) (by decide)
        case hcomp2 =>
          refine e_is (e_lcF (own := [("_law_word", 5)]) (g := gName 5) (js := [5]) (tf := fOne 5) (fun (x : Str) s => ((drawM cells s 3).2, D.str (sepOf cells s ++ x))) D.str (fun s => linA K H p q t r cells s es2 tu.2) (fun _ s => BagOk cells s) (tu.2.drop 1) tu.1 rfl sc_lines.nd (blkOk_by (N := NL) (sc := defScope s_l_lines) (by decide +kernel)) ?it (fun _ _ _ => trivial) (fun _ _ _ _ _ => pg_name (i := 5) sc_lines.nd rfl (Or.inl rfl)) (tg_name 5) (fun _ h => h) (fun _ _ h => h) (Nat.lt_of_le_of_lt hdl (by decide)) tok.bag fun M' hx hc i x s hb hP => ?tt) (by rw [outs_runS] <;> rfl)
          case it =>
            rw [← hcut]
            exact i_list (e_osl (B := linA K H p q t r cells tu.1 es2 tu.2) (C := linA K H p q t r cells tu.1 es2 tu.2) (G := linA K H p q t r cells tu.1 es2 tu.2) (e_var 4) (o_some e_int) o_none fun H' c => c.1.2.2)
          case tt =>
            obtain ⟨d1, d2, d3⟩ := drawM_ok (many := 3) hP (by decide)
            have hx := words_len x (hmd x (List.mem_of_getElem? hb))
            have hs := seps_len _ (sepOf_mem hP)
            exact ⟨d1, _, rfl, fun _ _ _ _ _ => e_adds (e_ixL (e_lst (a_cons e_str (a_cons e_str (a_one e_str)))) (e_draw (R := linF K H p t r es2 tu.2) T hr (hRp _ _) (by rw [hc]; exact hM1) hpq hP (by decide) (by decide) (e_var 0) e_int) (at_strs (xs := sepsL) d2 d3)) (e_var 5) (Nat.le_trans (show _ ≤ 7 by omega) (by decide))⟩
end
end RQ
set_option Elab.async false
set_option linter.all false
set_option maxRecDepth 100000
set_option maxHeartbeats 4000000
namespace Dx
open PySem PySem.Spec PyProof.Rows L2
def repS (x : Str) (n : Nat) : Str := ⟨(List.replicate n x.cps).foldl (· ++ ·) #[]⟩
theorem rep_size (a : Array Nat) : ∀ (n : Nat) (acc : Array Nat), ((List.replicate n a).foldl (· ++ ·) acc).size = acc.size + n * a.size
  | 0, acc => by simp
  | n + 1, acc => by
    rw [List.replicate_succ, List.foldl_cons, rep_size a n, Array.size_append, Nat.succ_mul]
    omega
theorem repS_len (x : Str) (n : Nat) : (repS x n).length = n * x.length := by
  show ((List.replicate n x.cps).foldl (· ++ ·) #[]).size = _
  rw [rep_size] <;> simp [Str.length]
section
variable {X : Cx} {M : AS} {A B C G : As} {δ δ' : LS} {pos p : Pos} {a b e : Expr}
theorem op_repS : OpR X (binaryOp .Mult) (fun x y H Q => ∃ (z : Str) (n : Int), x = .str z ∧ y = .int n ∧ 1 < n ∧ n ≤ 100 ∧ 0 < z.length ∧ z.length ≤ 1000 ∧ Q (.str (repS z n.toNat)) H) := by
  intro pins s σ H x y v u Q I rx ry h
  obtain ⟨z, n, rfl, rfl, h1, h2, h3, h4, q⟩ := h
  obtain ⟨t, rfl⟩ := rx
  obtain ⟨t', rfl⟩ := ry
  have hz : (n == 1 || z.length == 0) = false := by
    have e1 : (n == 1) = false := beq_eq_false_iff_ne.mpr (by omega)
    have e2 : (z.length == 0) = false := beq_eq_false_iff_ne.mpr (by omega)
    rw [e1, e2] <;> rfl
  have hbig : z.length * n.toNat ≤ 100000 := Nat.mul_le_mul h4 (show n.toNat ≤ 100 by omega)
  have hsz : z.length * n.toNat ≤ sizeLine := Nat.le_trans hbig (by decide)
  refine PySem.P.mul_str (by
    have e1 : decide (n < -(2 ^ 63 : Int)) = false := decide_eq_false (by omega)
    have e2 : decide (n ≥ 2 ^ 63) = false := decide_eq_false (by omega)
    rw [e1, e2] <;> rfl) (fun _ _ => ?_) (fun _ _ => decide_eq_false (by omega)) ?_
  · have : (92233720368547758 : Int) ≤ (2 ^ 63 - 1) / n := by
      rw [Int.le_ediv_iff_mul_le (by omega)]
      omega
    omega
  · rw [if_neg (by omega), if_neg (by rw [hz]; decide)]
    refine ⟨?_, ⟨.str (repS z n.toNat), H, I.tok _, ⟨_, rfl⟩, q⟩⟩
    show (repS z n.toNat).length ≤ sizeLine
    rw [repS_len, Nat.mul_comm]
    exact hsz
theorem e_repS {z : Str} {n : Int} (ha : PE X a (tC X.K M A δ B (.str z))) (hb : PE X b (tC X.K M B δ C (.int n))) (h1 : 1 < n) (h2 : n ≤ 100) (h3 : 0 < z.length) (h4 : z.length ≤ 1000) : PE X (.BinOp a .Mult b pos) (tC X.K M A δ C (.str (repS z n.toNat))) :=
  e_op op_repS ha hb fun H v w c t r1 r2 Q q => by
    cases r1
    cases r2
    exact ⟨z, n, rfl, rfl, h1, h2, h3, h4, q _ H (Same.refl H) (.str _)⟩
end
end Dx
namespace RQ
open PySem PySem.Spec PyProof.Rows L2 Dx
/-! ### the mirror of _law_names (four names) -/
def lettersX : Str := "abcdefghijklmnopqrstuvwxyz"
def letterOf (i : Int) : Str := ⟨#[97 + i.toNat]⟩
def wordsX : List Str := ["take", "yes", "no", "key", "hold", "ever", "a", "ab", "late", "here", "yet", "done"]
theorem letters_at : ∀ i : Fin 26, lettersX.cps.toList[i.val]? = some (97 + i.val) := by decide +kernel
theorem at_letter {i : Int} (h0 : 0 ≤ i) (h1 : i < 26) : atI lettersX.cps.toList i = some (97 + i.toNat) := by
  have e : ((i.toNat : Nat) : Int) = i := Int.toNat_of_nonneg h0
  rw [← e]
  refine atI_nat ?_
  have := letters_at ⟨i.toNat, by omega⟩
  rw [Int.toNat_natCast]
  exact this
def baseN (cells : Cells) (s : Bag) : Nat := (1 + (drawM cells s 8).1).toNat
def baseXs (cells : Cells) (s : Bag) : List Str := runS (fun (_ : Nat) s => (drawM cells s 26).2) (fun _ s => letterOf (drawM cells s 26).1) (List.range (baseN cells s)) (drawM cells s 8).2
def baseX (cells : Cells) (s : Bag) : Str := Txt.join "" (baseXs cells s)
def baseB (cells : Cells) (s : Bag) : Bag := draws cells 26 (List.range (baseN cells s)) (drawM cells s 8).2
def way0 (turn : Int) : List Str := (wordsX.drop (turn % 12).toNat ++ wordsX.take (turn % 12).toNat).take 4
def way1 (turn : Int) : List Str := (List.range 4).map fun (j : Nat) => cutS (repS (letterOf turn) 8) none (some ((j : Int) + 1))
def way2 (turn at_ : Int) (base : Str) : List Str := (List.range 4).map fun (j : Nat) => cutS base none (some at_) ++ letterOf ((turn + 3 * (j : Int)) % 26) ++ cutS base (some (at_ + 1)) none
def namesOf (way turn at_ : Int) (base : Str) : List Str := if way = 0 then way0 turn else if way = 1 then way1 turn else way2 turn at_ base
def namesM (cells : Cells) (s : Bag) : List Str × Bag :=
  let s1 := (drawM cells s 4).2
  let s2 := (drawM cells s1 26).2
  let b := baseX cells s2
  let s4 := baseB cells s2
  (namesOf (drawM cells s 4).1 (drawM cells s1 26).1 (drawM cells s4 (b.length : Nat)).1 b, (drawM cells s4 (b.length : Nat)).2)
theorem runS_len {β : Type} {g : β → Bag → Bag} {h : β → Bag → Str} : ∀ (bs : List β) (s : Bag), (runS g h bs s).length = bs.length
  | [], _ => rfl
  | b :: bs, s => congrArg (· + 1) (runS_len bs (g b s))
theorem sum_ones : ∀ l : List Str, (∀ x ∈ l, x.length = 1) → (l.map (·.length)).sum = l.length
  | [], _ => rfl
  | x :: l, h => by
    have h1 := sum_ones l fun y hy => h y (by simp [hy])
    have h2 := h x (by simp)
    show x.length + (l.map (·.length)).sum = l.length + 1
    omega
theorem runS_all {β : Type} {g : β → Bag → Bag} {h : β → Bag → Str} {p : Str → Prop} (hp : ∀ b s, p (h b s)) : ∀ (bs : List β) (s : Bag), ∀ x ∈ runS g h bs s, p x
  | [], _, x, hx => by cases hx
  | b :: bs, s, x, hx => by
    rcases List.mem_cons.mp hx with e | e
    · exact e ▸ hp b s
    · exact runS_all hp bs (g b s) x e
theorem baseX_len (cells : Cells) (s : Bag) : (baseX cells s).length = baseN cells s := by
  have h : ∀ x ∈ baseXs cells s, x.length = 1 := runS_all (p := fun x => x.length = 1) (fun _ _ => rfl) _ _
  unfold baseX
  rw [TL.join_eq, join_len, sum_ones _ h]
  unfold baseXs
  rw [runS_len, List.length_range]
theorem baseN_ok {cells : Cells} {s : Bag} (h : BagOk cells s) : 1 ≤ baseN cells s ∧ baseN cells s ≤ 8 ∧ 1 + (drawM cells s 8).1 = ((baseN cells s : Nat) : Int) := by
  obtain ⟨_, h1, h2⟩ := drawM_ok (many := 8) h (by decide)
  unfold baseN
  omega
section
variable {P : Program} {w : World} {K : PySem.W.Frag} {mg : Str → Option Value} {base : Heap}
abbrev NN : List Str := ["_law_bag_here", "_law_many", "_law_letters", "_law_words", "_law_way", "_law_turn", "_law_base", "_law_at", "_law_k"]
theorem sc_lnames : FnScope NN ["_law_bag_here", "_law_many"] (defScope s_l_names) := ⟨rfl, rfl, rfl, by decide +kernel, rfl, by decide +kernel, by decide +kernel⟩
def preLNames (K : PySem.W.Frag) : AS → Hp → List D → List Addr → As → D → Prop := fun M H ds Sx C d => ∃ (p q : Addr) (cells : Cells) (s : Bag), ds = [.ref p, .int 4] ∧ (bagA K p q cells s).p H ∧ M.c p ∧ p ≠ q ∧ BagOk cells s ∧ Sx = [p] ∧
  C = bagA K p q cells (namesM cells s).2 ∧ d = .lst ((namesM cells s).1.map D.str)
def fW1 (turn : Int) : D → D
  | .int j => .str (cutS (repS (letterOf turn) 8) none (some (j + 1)))
  | _ => .non
def fW2 (turn at_ : Int) (b : Str) : D → D
  | .int j => .str (cutS b none (some at_) ++ letterOf ((turn + 3 * j) % 26) ++ cutS b (some (at_ + 1)) none)
  | _ => .non
theorem cutS_len (z : Str) (lo hi : Option Int) : (cutS z lo hi).length ≤ z.length := by
  show ((z.cps.toList.drop _).take _).toArray.size ≤ z.cps.size
  rw [List.size_toArray, List.length_take, List.length_drop, Array.length_toList]
  omega
theorem h_lnames (T : Txt K mg) : Has P w K mg base 2 (atG "_law_names" K) ["_law_bag_here", "_law_many"] (spW K (preLNames K)) := by
  obtain ⟨fd, F⟩ := f_l_names T
  refine ⟨fd, okW F sc_lnames (fun M H ds Sx C d h => ?_) fun cdv A outer s H E M ds Sx C d hr tr h => ?_, F.bindsN fun _ _ _ _ _ _ us hl => match us, hl with | [_, _], _ => rfl, F.kp⟩
  · obtain ⟨_, _, _, _, rfl, _⟩ := h
    rfl
  · obtain ⟨p, q, cells, s0, rfl, hb, hM, hpq, ok0, rfl, rfl, rfl⟩ := h
    obtain ⟨ok1, hw0, hw4⟩ := drawM_ok (many := 4) ok0 (by decide)
    obtain ⟨ok2, ht0, ht26⟩ := drawM_ok (many := 26) ok1 (by decide)
    obtain ⟨ok3, h30, h38⟩ := drawM_ok (many := 8) ok2 (by decide)
    obtain ⟨hn1, hn8, hne⟩ := baseN_ok ok2
    have ok4 : BagOk cells (baseB cells (drawM cells (drawM cells s0 4).2 26).2) := draws_ok (by decide) ok3
    have hbl := baseX_len cells (drawM cells (drawM cells s0 4).2 26).2
    obtain ⟨ok5, ha0, hal⟩ := drawM_ok (many := ((baseX cells (drawM cells (drawM cells s0 4).2 26).2).length : Nat)) ok4 (by omega)
    have hL : namesM cells s0 = (namesOf (drawM cells s0 4).1 (drawM cells (drawM cells s0 4).2 26).1 (drawM cells (baseB cells (drawM cells (drawM cells s0 4).2 26).2) ((baseX cells (drawM cells (drawM cells s0 4).2 26).2).length : Nat)).1 (baseX cells (drawM cells (drawM cells s0 4).2 26).2), (drawM cells (baseB cells (drawM cells (drawM cells s0 4).2 26).2) ((baseX cells (drawM cells (drawM cells s0 4).2 26).2).length : Nat)).2) := rfl
    rw [hL]
    generalize hs1 : (drawM cells s0 4).2 = s1 at *
    generalize hway : (drawM cells s0 4).1 = way at *
    generalize hs2 : (drawM cells s1 26).2 = s2 at *
    generalize hturn : (drawM cells s1 26).1 = turn at *
    generalize hbx : baseX cells s2 = bx at *
    generalize hs4 : baseB cells s2 = s4 at *
    generalize hs5 : (drawM cells s4 (bx.length : Nat)).2 = s5 at *
    generalize hat : (drawM cells s4 (bx.length : Nat)).1 = at_ at *
    have hR : ¬ (As.mv [p] H).L p := fun z => z.2 (by simp)
    refine ⟨(As.mv [p] H).and (bagA K p q cells s0), .rt ((As.mv [p] H).and (bagA K p q cells s5)) (.lst ((namesOf way turn at_ bx).map D.str)), ⟨.refl H, hb⟩, fun H' c => ⟨c.1, c.2, rfl⟩, ?_⟩
    have hk : turn % 12 = (((turn % 12).toNat : Nat) : Int) := (Int.toNat_of_nonneg (Int.emod_nonneg _ (by decide))).symm
    have hk12 : (turn % 12).toNat ≤ 12 := by have := Int.emod_lt_of_pos turn (show (0 : Int) < 12 by decide); omega
    have hz26 : lettersX.length ≤ sizeLine := by decide
    refine ss_cons (s_set 2 sc_lnames.nd (e_str (i := lettersX))) (ss_cons (s_set 3 sc_lnames.nd (e_is (d' := .lst (wordsX.map D.str)) (e_lst (a_cons e_str (a_cons e_str (a_cons e_str (a_cons e_str (a_cons e_str (a_cons e_str (a_cons e_str (a_cons e_str (a_cons e_str (a_cons e_str (a_cons e_str (a_one e_str))))))))))))) rfl))
      (ss_cons (B := (As.mv [p] H).and (bagA K p q cells s2)) (s_asg (f := fTup (fCons (fOne 4) (fCons (fOne 5) fNil))) (δ' := [some (.ref p), some (.int 4), some (.str lettersX), some (.lst (wordsX.map D.str)), some (.int way), some (.int turn), none, none, none]) (e_tup (a_cons (d := .int way) (B := (As.mv [p] H).and (bagA K p q cells s1)) ?dw (a_one (d := .int turn) ?dt))) (pg_tup rfl (pgs_cons (pg_name (i := 4) sc_lnames.nd rfl (Or.inl rfl)) (pgs_cons (pg_name (i := 5) sc_lnames.nd rfl (Or.inr rfl)) pgs_nil))) (tg_pair 4 5) rfl)
      (ss_cons (B := (As.mv [p] H).and (bagA K p q cells s4)) (s_set (d := .str bx) 6 sc_lnames.nd (e_is (e_join (ys := baseXs cells s2) e_str ?hcomp ?jz) (by rw [← hbx] <;> rfl)))
      (ss_cons (B := (As.mv [p] H).and (bagA K p q cells s5)) (s_set (d := .int at_) 7 sc_lnames.nd ?da)
      (ss_if (k := decide (way = 0)) (t_eqI (e_var 4) e_int) (fun h => ss_one (s_ret (e_is (e_slL (e_cat (e_slL (e_var 3) (o_some (e_mod (e_var 5) e_int (by decide))) o_none) (e_slL (e_var 3) o_none (o_some (e_mod (e_var 5) e_int (by decide)))) ?z0) o_none (o_some (e_var 1))) ?e0))) fun h =>
       ss_if (k := decide (way = 1)) (t_is (t_and (k := decide (way = 1)) (j := true) (t_eqI (i := way) (j := 1) (e_var 4) e_int) fun _ => t_is (t_lt (i := 4) (j := 9) (e_var 1 (d := .int 4)) e_int) (by decide)) (by rw [Bool.and_true])) (fun h1 => ss_one (s_ret (e_is (e_lcM (own := [("_law_k", 8)]) (g := gName 8) (js := [8]) (f := fOne 8) (items := intsD 4) (fW1 turn) rfl sc_lnames.nd (blkOk_by (N := NN) (sc := defScope s_l_names) (by decide +kernel)) (i_range (q0 := ⟨0, 0, 0, 0⟩) (n := 4) (n_range T) (e_var 1) (by decide) (by decide)) (fun _ _ => trivial) (fun _ _ _ _ _ => pg_name (i := 8) sc_lnames.nd rfl (Or.inl rfl)) (tg_name 8) (fun _ h => h) (by rw [intsD_len]; decide) ?t1) ?e1))) fun h1 =>
       ss_one (s_ret (e_is (e_lcM (own := [("_law_k", 8)]) (g := gName 8) (js := [8]) (f := fOne 8) (items := intsD 4) (fW2 turn at_ bx) rfl sc_lnames.nd (blkOk_by (N := NN) (sc := defScope s_l_names) (by decide +kernel)) (i_range (q0 := ⟨0, 0, 0, 0⟩) (n := 4) (n_range T) (e_var 1) (by decide) (by decide)) (fun _ _ => trivial) (fun _ _ _ _ _ => pg_name (i := 8) sc_lnames.nd rfl (Or.inl rfl)) (tg_name 8) (fun _ h => h) (by rw [intsD_len]; decide) ?t2) ?e2)))))))
    case dw =>
      rw [← hway, ← hs1]
      exact e_draw T hr hR hM hpq ok0 (by decide) (by decide) (e_var 0) e_int
    case dt =>
      rw [← hturn, ← hs2]
      exact e_draw T hr hR hM hpq ok1 (by decide) (by decide) (e_var 0) e_int
    case da =>
      rw [← hat, ← hs5]
      exact e_draw T hr hR hM hpq ok4 (by omega) (by omega) (e_var 0) (e_lenS (Nat.le_trans (show _ ≤ 8 by omega) (by decide)) (n_len T) (e_var 6))
    case jz =>
      have h1 : ((baseXs cells s2).map (·.length)).sum = (baseXs cells s2).length := sum_ones _ (runS_all (p := fun x => x.length = 1) (fun _ _ => rfl) _ _)
      have h2 : (baseXs cells s2).length = baseN cells s2 := by unfold baseXs; rw [runS_len, List.length_range]
      have h3 : ("" : Str).length = 0 := rfl
      rw [h1, h2, h3]
      omega
    case hcomp =>
      rw [← hs4]
      refine e_is (e_lcF (own := [("_law_k", 8)]) (g := gName 8) (js := [8]) (tf := fOne 8) (fun (_ : Nat) s => ((drawM cells s 26).2, D.str (letterOf (drawM cells s 26).1))) (fun i => D.int (i : Nat)) (fun s => (As.mv [p] H).and (bagA K p q cells s)) (fun _ s => BagOk cells s) (List.range (baseN cells s2)) (drawM cells s2 8).2 rfl sc_lnames.nd (blkOk_by (N := NN) (sc := defScope s_l_names) (by decide +kernel)) (i_range (q0 := ⟨0, 0, 0, 0⟩) (n_range T) (e_add e_int (e_draw T hr hR hM hpq ok2 (by decide) (by decide) (e_var 0) e_int)) (by omega) (by omega)) (fun _ _ _ => trivial) (fun _ _ _ _ _ => pg_name (i := 8) sc_lnames.nd rfl (Or.inl rfl)) (tg_name 8) (fun _ h => h) (fun _ _ h => h) (by rw [List.length_range]; exact Nat.lt_of_le_of_lt hn8 (by decide)) ok3 fun M' hx hc i b s hb hP => ?tt) (by rw [outs_runS] <;> rfl)
      obtain ⟨d1, d2, d3⟩ := drawM_ok (many := 26) hP (by decide)
      exact ⟨d1, _, rfl, fun _ _ _ _ _ => e_ixS (e_var 2 (d := .str lettersX)) (e_draw T hr hR (by rw [hc]; exact hM) hpq hP (by decide) (by decide) (e_var 0) e_int) hz26 (at_letter d2 d3)⟩
    case z0 =>
      have h1 := cut_len (wordsX.map D.str) (some (turn % 12)) none
      have h2 := cut_len (wordsX.map D.str) none (some (turn % 12))
      have h3 : (wordsX.map D.str).length = 12 := rfl
      exact Nat.le_trans (show _ ≤ 24 by omega) (by decide)
    case e0 =>
      have e1 : namesOf way turn at_ bx = way0 turn := by unfold namesOf; rw [if_pos (of_decide_eq_true h)]
      have h12 : (wordsX.map D.str).length = 12 := rfl
      have hk' : turn % 12 < 12 := Int.emod_lt_of_pos turn (by decide)
      rw [e1, hk, cut_drop _ _ (by rw [h12]; omega), cut_take _ _ (by rw [h12]; omega), ← List.map_drop, ← List.map_take, ← List.map_append]
      have h4 := cut_take ((wordsX.drop (turn % 12).toNat ++ wordsX.take (turn % 12).toNat).map D.str) 4 (by rw [List.length_map, List.length_append, List.length_drop, List.length_take]; show 4 ≤ 12 - _ + min _ 12; omega)
      show D.lst (Dx.cutD _ none (some ((4 : Nat) : Int))) = _
      rw [h4, ← List.map_take] <;> rfl
    case t1 =>
      intro M' hx hc d hd
      obtain ⟨j, hj, rfl⟩ := List.mem_map.mp hd
      have hj := List.mem_range.mp hj
      exact ⟨_, rfl, fun _ _ _ _ _ => e_slS (by rw [repS_len]; show 8 * 1 ≤ sizeLine; decide) (e_repS (e_ixS (e_var 2 (d := .str lettersX)) (e_var 5 (d := .int turn)) hz26 (at_letter ht0 ht26)) e_int (by decide) (by decide) (by show 0 < 1; decide) (by show 1 ≤ 1000; decide)) o_none (o_some (e_add (e_var 8 (d := .int (j : Nat))) e_int))⟩
    case e1 =>
      have e1 : namesOf way turn at_ bx = way1 turn := by unfold namesOf; rw [if_neg (of_decide_eq_false h), if_pos (of_decide_eq_true h1)]
      rw [e1]
      unfold way1 intsD
      rw [List.map_map, List.map_map] <;> rfl
    case t2 =>
      intro M' hx hc d hd
      obtain ⟨j, hj, rfl⟩ := List.mem_map.mp hd
      have hj := List.mem_range.mp hj
      have hbz : bx.length ≤ sizeLine := Nat.le_trans (show _ ≤ 8 by omega) (by decide)
      have c1 := cutS_len bx none (some at_)
      have c2 := cutS_len bx (some (at_ + 1)) none
      have hl1 : (letterOf ((turn + 3 * ((j : Nat) : Int)) % 26)).length = 1 := rfl
      have hl2 : (cutS bx none (some at_) ++ letterOf ((turn + 3 * ((j : Nat) : Int)) % 26)).length = (cutS bx none (some at_)).length + (letterOf ((turn + 3 * ((j : Nat) : Int)) % 26)).length := Str.length_append _ _
      exact ⟨_, rfl, fun _ _ _ _ _ => e_adds (e_adds (e_slS hbz (e_var 6 (d := .str bx)) o_none (o_some (e_var 7))) (e_ixS (e_var 2 (d := .str lettersX)) (e_mod (e_add (e_var 5 (d := .int turn)) (e_mul e_int (e_var 8 (d := .int (j : Nat))) (.inl (by decide)))) e_int (by decide)) hz26 (at_letter (Int.emod_nonneg _ (by decide)) (Int.emod_lt_of_pos _ (by decide)))) (Nat.le_trans (show _ ≤ 9 by rw [hl1]; omega) (by decide))) (e_slS hbz (e_var 6 (d := .str bx)) (o_some (e_add (e_var 7) e_int)) o_none) (Nat.le_trans (show _ ≤ 17 by rw [hl2, hl1]; omega) (by decide))⟩
    case e2 =>
      have e1 : namesOf way turn at_ bx = way2 turn at_ bx := by unfold namesOf; rw [if_neg (of_decide_eq_false h), if_neg (of_decide_eq_false h1)]
      rw [e1]
      unfold way2 intsD
      rw [List.map_map, List.map_map] <;> rfl
end
end RQ
set_option Elab.async false
set_option linter.all false
set_option maxRecDepth 100000
set_option maxHeartbeats 4000000
namespace RQ
open PySem PySem.Spec PyProof.Rows L2 Dx
/-! ### _law_some -/
def deedWs : List Str := ["take", "take", "effect", "follow", "finish", "fail", "give", "lost"]
def deedOf (w n : Str) (k : Int) : Deed := if w = "take" then .take (1 + k) else if w = "effect" then .eff n else if w = "follow" then .fol n else .tok w n k
def someD (cells : Cells) (names : List Str) (s : Bag) : Deed :=
  let s1 := (drawM cells s (names.length : Nat)).2
  let s2 := (drawM cells s1 4).2
  deedOf (deedWs.getD (drawM cells s2 8).1.toNat Str.empty) (names.getD (drawM cells s (names.length : Nat)).1.toNat Str.empty) (drawM cells s1 4).1
def someB (cells : Cells) (names : List Str) (s : Bag) : Bag := (drawM cells (drawM cells (drawM cells s (names.length : Nat)).2 4).2 8).2
def someN (cells : Cells) (s : Bag) : Nat := (1 + (drawM cells s 3).1).toNat
abbrev SSt := Bag × List Deed
def someF (cells : Cells) (names : List Str) (_ : Nat) (st : SSt) : SSt := (someB cells names st.1, st.2 ++ [someD cells names st.1])
def someM (cells : Cells) (names : List Str) (s : Bag) : SSt := (List.range (someN cells s)).foldl (fun st i => someF cells names i st) ((drawM cells s 3).2, [])
theorem someB_ok {cells : Cells} {names : List Str} {s : Bag} (h : BagOk cells s) (h0 : 0 < names.length) : BagOk cells (someB cells names s) := (drawM_ok (many := 8) (drawM_ok (many := 4) (drawM_ok (many := (names.length : Nat)) h (by omega)).1 (by decide)).1 (by decide)).1
section
variable {P : Program} {w : World} {K : PySem.W.Frag} {mg : Str → Option Value} {base : Heap}
abbrev NS : List Str := ["_law_bag_here", "_law_names_here", "_law_found", "_law_k", "_law_name", "_law_number", "_law_word"]
theorem sc_some : FnScope NS ["_law_bag_here", "_law_names_here"] (defScope s_l_some) := ⟨rfl, rfl, rfl, by decide +kernel, rfl, by decide +kernel, by decide +kernel⟩
def preSome (K : PySem.W.Frag) : AS → Hp → List D → List Addr → As → D → Prop := fun M H ds Sx C d => ∃ (p q : Addr) (cells : Cells) (s : Bag) (names : List Str), ds = [.ref p, .lst (names.map D.str)] ∧ (bagA K p q cells s).p H ∧ M.c p ∧ p ≠ q ∧ BagOk cells s ∧ 0 < names.length ∧ names.length < 100 ∧ Sx = [p] ∧
  C = bagA K p q cells (someM cells names s).1 ∧ d = .lst ((someM cells names s).2.map deedD)
theorem h_some (T : Txt K mg) : Has P w K mg base 2 (atG "_law_some" K) ["_law_bag_here", "_law_names_here"] (spW K (preSome K)) := by
  obtain ⟨fd, F⟩ := f_l_some T
  refine ⟨fd, okW F sc_some (fun M H ds Sx C d h => ?_) fun cdv A outer s H E M ds Sx C d hr tr h => ?_, F.bindsN fun _ _ _ _ _ _ us hl => match us, hl with | [_, _], _ => rfl, F.kp⟩
  · obtain ⟨_, _, _, _, _, rfl, _⟩ := h
    rfl
  · obtain ⟨p, q, cells, s0, names, rfl, hb, hM, hpq, ok0, hn0, hn100, rfl, rfl, rfl⟩ := h
    obtain ⟨ok1, h10, h13⟩ := drawM_ok (many := 3) ok0 (by decide)
    have hbagne : (bagA K p q cells s0).p H := hb
    refine ⟨(As.mv [p] H).and (bagA K p q cells s0), .rt ((As.mv [p] H).and (bagA K p q cells (someM cells names s0).1)) (.lst ((someM cells names s0).2.map deedD)), ⟨.refl H, hb⟩, fun H' c => ⟨c.1, c.2, rfl⟩, ?_⟩
    have hR0 : ¬ (As.mv [p] H).L p := fun z => z.2 (by simp)
    refine ss_new 2 (fun r => .rt (((As.mv [p] H).and (lstA K r ((someM cells names s0).2.map deedD))).and (bagA K p q cells (someM cells names s0).1)) (.ref r)) sc_some.nd (n_lst a_nil) rfl fun r nM nL => ⟨?_, .rtL fun H' c => ⟨⟨c.1.1, c.2⟩, c.1.2⟩⟩
    have n1 : r ≠ p := fun z => nL (.inr (.inl z))
    have n2 : r ≠ q := fun z => nL (.inr (.inr z))
    have n3 : ¬ (As.mv [p] H).L r := fun z => nL (.inl z)
    have hM1 : (M.own r).c p := .inl hM
    have hRp : ∀ ds, ¬ ((As.mv [p] H).and (lstA K r ds)).L p := fun ds z => z.elim hR0 fun z => n1 z.symm
    let At : SSt → As := fun st => ((As.mv [p] H).and (lstA K r (st.2.map deedD))).and (bagA K p q cells st.1)
    refine ss_from (B := At (s0, [])) ?body fun H' c => ⟨⟨c.1.1, c.2⟩, c.1.2⟩
    refine ss_cons (s_forF (someF cells names) (fun i => D.int (i : Nat)) At (fun _ => [some (.ref p), some (.lst (names.map D.str)), some (.ref r), none, none, none, none]) (fun i st => BagOk cells st.1 ∧ st.2.length = i) (List.range (someN cells s0)) ((drawM cells s0 3).2, []) PassesOwn.never rfl
      (i_range (q0 := ⟨0, 0, 0, 0⟩) (n_range T) (e_add e_int (e_draw (R := (As.mv [p] H).and (lstA K r [])) T hr (hRp _) hM1 hpq ok0 (by decide) (by decide) (e_var 0) e_int)) (by omega) (by omega)) (fun _ _ _ => trivial) rfl ⟨ok1, rfl⟩ (pg_name (i := 3) sc_some.nd rfl (Or.inl rfl)) (tg_name 3) fun i b st hb hP => ?turn) (ss_one (s_ret (e_var 2)))
    obtain ⟨hB, hlen⟩ := hP
    have hi : i < 3 := by
      have h := (List.getElem?_eq_some_iff.mp hb).1
      rw [List.length_range] at h
      unfold someN at h
      omega
    obtain ⟨k1, k2, k3⟩ := drawM_ok (many := (names.length : Nat)) hB (by omega)
    obtain ⟨k4, k5, k6⟩ := drawM_ok (many := 4) k1 (by decide)
    obtain ⟨k7, k8, k9⟩ := drawM_ok (many := 8) k4 (by decide)
    refine ⟨_, rfl, ⟨someB_ok hB hn0, by show (st.2 ++ [_]).length = i + 1; rw [List.length_append, hlen] <;> rfl⟩, ?_⟩
    have hf : At (someF cells names b st) = ((As.mv [p] H).and (lstA K r ((st.2 ++ [someD cells names st.1]).map deedD))).and (bagA K p q cells (someB cells names st.1)) := rfl
    rw [hf]
    have hw : deedWs.getD (drawM cells (drawM cells (drawM cells st.1 (names.length : Nat)).2 4).2 8).1.toNat Str.empty ∈ deedWs := by
      have hlt : (drawM cells (drawM cells (drawM cells st.1 (names.length : Nat)).2 4).2 8).1.toNat < deedWs.length := by show _ < 8; omega
      rw [List.getD_eq_getElem?_getD, List.getElem?_eq_getElem hlt]
      exact List.getElem_mem _
    obtain ⟨wd, hwd⟩ : ∃ x, x = deedWs.getD (drawM cells (drawM cells (drawM cells st.1 (names.length : Nat)).2 4).2 8).1.toNat Str.empty := ⟨_, rfl⟩
    obtain ⟨nm, hnm⟩ : ∃ x, x = names.getD (drawM cells st.1 (names.length : Nat)).1.toNat Str.empty := ⟨_, rfl⟩
    obtain ⟨num, hnum⟩ : ∃ x, x = (drawM cells (drawM cells st.1 (names.length : Nat)).2 4).1 := ⟨_, rfl⟩
    have hd : someD cells names st.1 = deedOf wd nm num := by rw [hwd, hnm, hnum] <;> rfl
    rw [hd]
    rw [← hwd] at hw
    let A1 : As := ((As.mv [p] H).and (lstA K r (st.2.map deedD))).and (bagA K p q cells (drawM cells (drawM cells st.1 (names.length : Nat)).2 4).2)
    let A2 : As := ((As.mv [p] H).and (lstA K r (st.2.map deedD))).and (bagA K p q cells (someB cells names st.1))
    have happ : ∀ (dd : Deed) H' (xs ys : List V), A2.p H' → H' r = some (.lst xs) → (lstA K r (st.2.map deedD ++ [deedD dd])).p (upd H' r (.lst ys)) → (((As.mv [p] H).and (lstA K r ((st.2 ++ [dd]).map deedD))).and (bagA K p q cells (someB cells names st.1))).p (upd H' r (.lst ys)) := fun dd H' xs ys c e l => by
      have em : (st.2 ++ [dd]).map deedD = st.2.map deedD ++ [deedD dd] := by rw [List.map_append] <;> rfl
      rw [em]
      exact ⟨⟨(As.mv [p] H).stab e n3 c.1.1, l⟩, (bagA K p q cells _).stab e (fun z => z.elim n1 n2) c.2⟩
    have hz : (st.2.map deedD).length < sizeLine := by rw [List.length_map, hlen]; exact Nat.lt_trans hi (by decide)
    refine ss_forget (δ' := [some (.ref p), some (.lst (names.map D.str)), some (.ref r), some (D.int (b : Nat)), none, none, none]) 3 (ss_forget (δ' := [some (.ref p), some (.lst (names.map D.str)), some (.ref r), some (D.int (b : Nat)), some (.str nm), none, none]) 4 (ss_forget (δ' := [some (.ref p), some (.lst (names.map D.str)), some (.ref r), some (D.int (b : Nat)), some (.str nm), some (.int num), none]) 5 (ss_forget (δ' := [some (.ref p), some (.lst (names.map D.str)), some (.ref r), some (D.int (b : Nat)), some (.str nm), some (.int num), some (.str wd)]) 6 (ss_cons (B := A1) (s_par 4 5 rfl sc_some.nd rfl rfl (by decide) rfl rfl (a_cons (d := .str nm) (B := ((As.mv [p] H).and (lstA K r (st.2.map deedD))).and (bagA K p q cells (drawM cells st.1 (names.length : Nat)).2)) ?dn (a_one (d := .int num) ?dk)) rfl)
      (ss_cons (B := A2) (s_set (d := .str wd) 6 sc_some.nd ?dw) (ss_one ?ifs))))))
    case dn =>
      rw [hnm]
      exact e_ixL (e_var 1) (e_draw (R := (As.mv [p] H).and (lstA K r (st.2.map deedD))) T hr (hRp _) hM1 hpq hB (by omega) (by omega) (e_var 0) (e_is (e_lenL (n_len T) (e_var 1)) (by rw [List.length_map]))) (at_strs k2 k3)
    case dk =>
      rw [hnum]
      exact e_draw (R := (As.mv [p] H).and (lstA K r (st.2.map deedD))) T hr (hRp _) hM1 hpq k1 (by decide) (by decide) (e_var 0) e_int
    case dw =>
      rw [hwd]
      exact e_ixL (e_is (d' := .lst (deedWs.map D.str)) (e_lst (a_cons e_str (a_cons e_str (a_cons e_str (a_cons e_str (a_cons e_str (a_cons e_str (a_cons e_str (a_one e_str))))))))) rfl) (e_draw (R := (As.mv [p] H).and (lstA K r (st.2.map deedD))) T hr (hRp _) hM1 hpq k4 (by decide) (by decide) (e_var 0) e_int) (at_strs k8 k9)
    case ifs =>
      refine s_if (k := decide (wd = "take")) (t_eqS (e_var 6) e_str) (fun h => ?_) fun h => ss_one (s_if (k := decide (wd ∈ [("effect" : Str), "follow"])) (t_cmp op_in_seq (e_var 6) (e_is (d' := .tup ([("effect" : Str), "follow"].map D.str)) (e_tup (a_cons e_str (a_one e_str))) rfl) rd_inT) (fun h2 => ?_) fun h2 => ?_)
      · have e0 : wd = "take" := of_decide_eq_true h
        have e1 : deedOf wd nm num = .take (1 + num) := by unfold deedOf; rw [if_pos e0]
        rw [e1]
        exact ss_one (s_oapp (B := A2) (C := A2) (d := deedD (.take (1 + num))) (e_var 2) (e_tup (a_cons (e_is (e_var 6) (congrArg D.str e0)) (a_one (e_add e_int (e_var 5))))) (.inr rfl) (fun H' c => c.1.2) (fun H' c => c.1.2) rfl hz (happ _))
      · have n0 : wd ≠ "take" := of_decide_eq_false h
        rcases List.mem_cons.mp (of_decide_eq_true h2) with e0 | e0
        · have e1 : deedOf wd nm num = .eff nm := by unfold deedOf; rw [if_neg n0, if_pos e0]
          rw [e1]
          exact ss_one (s_oapp (B := A2) (C := A2) (d := deedD (.eff nm)) (e_var 2) (e_tup (a_cons (e_is (e_var 6) (congrArg D.str e0)) (a_one (e_var 4)))) (.inr rfl) (fun H' c => c.1.2) (fun H' c => c.1.2) rfl hz (happ _))
        · have e0 := List.mem_singleton.mp e0
          have n1' : wd ≠ "effect" := by rw [e0]; decide
          have e1 : deedOf wd nm num = .fol nm := by unfold deedOf; rw [if_neg n0, if_neg n1', if_pos e0]
          rw [e1]
          exact ss_one (s_oapp (B := A2) (C := A2) (d := deedD (.fol nm)) (e_var 2) (e_tup (a_cons (e_is (e_var 6) (congrArg D.str e0)) (a_one (e_var 4)))) (.inr rfl) (fun H' c => c.1.2) (fun H' c => c.1.2) rfl hz (happ _))
      · have n0 : wd ≠ "take" := of_decide_eq_false h
        have h3 := of_decide_eq_false h2
        have e1 : deedOf wd nm num = .tok wd nm num := by
          unfold deedOf
          rw [if_neg n0, if_neg fun z => h3 (by rw [z]; simp), if_neg fun z => h3 (by rw [z]; simp)]
        rw [e1]
        exact ss_one (s_oapp (B := A2) (C := A2) (d := deedD (.tok wd nm num)) (e_var 2) (e_tup (a_cons (e_var 6) (a_cons (e_var 4) (a_one (e_var 5))))) (.inr rfl) (fun H' c => c.1.2) (fun H' c => c.1.2) rfl hz (happ _))
/-! ### _law_shown -/
noncomputable def shownD (S : Cfg) (clk : Int) (tab : Tab) : D := .lst [.int clk, oI (nextM clk tab), .lst ((tab.map (·.1)).map fun n => .tup [.str n, rowS (getR tab n)]), .lst ((takenM S tab clk 8).map D.str)]
def fRow (tab : Tab) : D → D
  | .str n => .tup [.str n, rowS (getR tab n)]
  | _ => .non
def preShown (K : PySem.W.Frag) : Hp → List D → D → Prop := fun H ds d => ∃ (q a t : Addr) (S : Cfg) (clk : Int) (tab : Tab), ds = [.ref q] ∧ QuR K H q a t clk tab ∧ SetAt K H a S ∧ SOk S ∧ TabOk tab ∧ d = shownD S clk tab
theorem sc_shown : FnScope ["_law_queue", "_law_name"] ["_law_queue"] (defScope s_l_shown) := ⟨rfl, rfl, rfl, by decide +kernel, rfl, by decide +kernel, by decide +kernel⟩
theorem h_shown (T : Txt K mg) : Has P w K mg base 7 (atG "_law_shown" K) ["_law_queue"] (spF K (preShown K)) := by
  obtain ⟨fd, F⟩ := f_l_shown T
  refine ⟨fd, okF F sc_shown (fun H ds d h => ?_) (fun H H' ds d e0 ⟨q, a, t, S, clk, tab, h1, h2, h3, h4⟩ => ⟨q, a, t, S, clk, tab, h1, h2.same e0, h3.same e0, h4⟩) fun cdv A outer s H E M ds d hr h => ?_, F.bindsN fun _ _ _ _ _ _ us hl => match us, hl with | [_], _ => rfl, F.kp⟩
  · obtain ⟨_, _, _, _, _, _, rfl, _⟩ := h
    rfl
  · obtain ⟨q, a, t, S, clk, tab, rfl, hq, hS, ok, tok, rfl⟩ := h
    have hk : ∀ H', (As.same H).p H' → ∃ dx fs, H' q = some (.ins (atG "Queue" K) dx fs) ∧ ∀ m, List.lookup m [(("by" : Str), D.ref a), ("table", .ref t), ("clock", .int clk)] = none → fs.lookup m = none := fun H' e => let ⟨dx, fs, h1, h2⟩ := (hq.same e).1; ⟨dx, fs, h1, fun m hm => h2.getN hm⟩
    refine ⟨.rt (As.same H) _, ⟨fun _ h => h, rfl⟩, ss_one (s_ret (e_lst (a_cons (c_meth0 (cl_Queue T) (me_Queue_time T) (h_Queue_time T) (hr.mono (by decide)) (e_var 0) (fun H' e => qu_nolk (hq.same e).1) (spF_ok fun H' e => ⟨q, a, t, clk, tab, rfl, hq.same e, rfl⟩))
      (a_cons (c_meth0 (cl_Queue T) (me_Queue_next_time T) (h_Queue_next T) (hr.mono (by decide)) (e_var 0) (fun H' e => qu_nolk (hq.same e).1) (spF_ok fun H' e => ⟨q, a, t, clk, tab, rfl, hq.same e, tok.len, rfl⟩))
      (a_cons (e_is (e_lcM (own := [("_law_name", 1)]) (g := gName 1) (js := [1]) (f := fOne 1) (items := (tab.map (·.1)).map D.str) (B := As.same H) (fRow tab) rfl sc_shown.nd (blkOk_by (N := ["_law_queue", "_law_name"]) (sc := defScope s_l_shown) (by decide +kernel)) (i_list (c_meth0 (cl_Queue T) (me_Queue_names T) (h_Queue_names T) (hr.mono (by decide)) (e_var 0) (fun H' e => qu_nolk (hq.same e).1) (spF_ok fun H' e => ⟨q, a, t, clk, tab, rfl, hq.same e, rfl⟩))) (fun _ _ => trivial) (fun _ _ _ _ _ => pg_name (i := 1) sc_shown.nd rfl (Or.inl rfl)) (tg_name 1) (fun _ h => h) ?z ?tt) ?e0)
      (a_one (c_meth (cl_Queue T) (me_Queue_free T) (h_Queue_free T) hr (e_var 0) (fun H' e => qu_nolk (hq.same e).1) (a_one e_int) (spF_ok fun H' e => ⟨q, a, t, S, clk, 8, tab, rfl, hq.same e, hS.same e, ok, tok, rfl⟩))))))))⟩
    case z =>
      rw [List.length_map, List.length_map]
      exact Nat.lt_of_le_of_lt tok.len (by decide)
    case tt =>
      intro M' _ _ d hd
      obtain ⟨n, hn, rfl⟩ := List.mem_map.mp hd
      exact ⟨_, rfl, fun _ _ _ _ _ => e_tup (a_cons (e_var 1) (a_one (c_meth (cl_Queue T) (me_Queue_row T) (h_Queue_row T) (hr.mono (by decide)) (e_var 0) (fun H' e => qu_nolk (hq.same e).1) (a_one (e_var 1)) (spF_ok fun H' e => ⟨q, a, t, clk, tab, n, rfl, hq.same e, lookup_of_key hn, rfl⟩))))⟩
    case e0 => rw [List.map_map] <;> rfl
end
end RQ
set_option Elab.async false
set_option linter.all false
set_option maxRecDepth 100000
set_option maxHeartbeats 4000000
namespace Dx
open PySem PySem.Spec PyProof.Rows L2
/-! readings from one heap: the state is told by any word over heaps -/
def tP (K : PySem.W.Frag) (M : AS) (H0 : Hp) (δ : LS) (φ : Hp → LS → Prop) : TS := fun E σ H => H = H0 ∧ Tr M H0 ∧ RelS K M H0 σ δ ∧ ∀ σ' H' δ', Kp M H0 H' → φ H' δ' → RelS K M H' σ' δ' → E.nx σ' H'
def tPE (K : PySem.W.Frag) (M : AS) (H0 : Hp) (δ : LS) (ψ : Hp → D → Prop) : TE := fun σ H Q => H = H0 ∧ Tr M H0 ∧ RelS K M H0 σ δ ∧ ∀ v H' d, Kp M H0 H' → ψ H' d → Rp K M H' v d → Q v H'
def Out.to (M : AS) (φ : Hp → LS → Prop) (H0 : Hp) : Out → Prop
  | .nx B δ => ∀ H', Kp M H0 H' → B.p H' → φ H' δ
  | .all o => ∀ g : Nat → Addr, (∀ i, H0 (g i) = none) → (o g).to M φ H0
  | _ => False
theorem Out.to_ok {K : PySem.W.Frag} {M : AS} {φ : Hp → LS → Prop} {H0 : Hp} {E : Ends} (q : ∀ σ' H' δ', Kp M H0 H' → φ H' δ' → RelS K M H' σ' δ' → E.nx σ' H') : ∀ {o : Out}, o.to M φ H0 → o.ok K M H0 E
  | .nx B δ, h => fun σ' H' k b r => q σ' H' δ k (h H' k b) r
  | .all o, h => fun g n => Out.to_ok q (h g n)
/-- a list that is being made, of any data -/
def ownL (K : PySem.W.Frag) (M : AS) (H : Hp) (q : Addr) (ds : List D) : Prop := ∃ acc, H q = some (.lst acc) ∧ RpL K M H acc ds
theorem ownL.mv {K : PySem.W.Frag} {M : AS} {H H' : Hp} {q : Addr} {ds : List D} {S : List Addr} (h : ownL K M H q ds) (m : Mv S H H') (k : Kp M H H') (n : q ∉ S) : ownL K M H' q ds := let ⟨acc, e, l⟩ := h; ⟨acc, m.keep q _ e n, l.kp k _ _⟩
section
variable {X : Cx} {M : AS} {A B C G : As} {δ δ' : LS} {H0 : Hp} {φ φ1 : Hp → LS → Prop} {ψ ψ1 : Hp → D → Prop} {pos p p2 apos cpos epos : Pos} {x y z d : D} {a b c e o tg iter : Expr} {items : List D} {st lp lp2 : Stmt} {rest sts body : List Stmt} {ou : Out} {Bg : Gh → As} {dg : Gh → D}
theorem ps_anyS : PS X st (fun E σ H => ∃ t, PS X st t ∧ t E σ H) := ⟨fun pins s σ H E I ⟨t, h, q⟩ => h.run pins s σ H E I q⟩
theorem p_st (h : PS X st (tO X.K M (As.same H0) δ ou)) (t : ou.to M φ H0) : PS X st (tP X.K M H0 δ φ) := ps_imp h fun E σ H ⟨e, tr, r, q⟩ => by
  subst e
  exact ⟨⟨Same.refl H, tr, r⟩, Out.to_ok q t⟩
theorem p_sts (h : PSs X sts (tO X.K M (As.same H0) δ ou)) (t : ou.to M φ H0) : PSs X sts (tP X.K M H0 δ φ) := pss_imp h fun E σ H ⟨e, tr, r, q⟩ => by
  subst e
  exact ⟨⟨Same.refl H, tr, r⟩, Out.to_ok q t⟩
theorem p_nil (h : φ H0 δ) : PSs X [] (tP X.K M H0 δ φ) := pss_imp pss_nil fun E σ H ⟨e, tr, r, q⟩ => by
  subst e
  exact q σ H δ (Kp.refl H) h r
theorem p_cons (h1 : PS X st (tP X.K M H0 δ φ1)) (h2 : ∀ H1 δ1, Kp M H0 H1 → Tr M H1 → φ1 H1 δ1 → PSs X rest (tP X.K M H1 δ1 φ)) : PSs X (st :: rest) (tP X.K M H0 δ φ) :=
  pss_imp (pss_cons h1 (pss_any (sts := rest))) fun E σ H ⟨e, tr, r, q⟩ => ⟨e, tr, r, fun σ' H' δ' k f r' => ⟨_, h2 H' δ' k (tr_kp tr k) f, rfl, tr_kp tr k, r', fun σ2 H2 δ2 k2 f2 r2 => q σ2 H2 δ2 (k.trans k2) f2 r2⟩⟩
theorem p_one (h1 : PS X st (tP X.K M H0 δ φ)) : PSs X [st] (tP X.K M H0 δ φ) := p_cons h1 fun _ _ _ _ f => p_nil f
/-- a statement that goes on in one way -/
theorem p_nx (h1 : PS X st (tO X.K M (As.same H0) δ (.nx B δ'))) (h2 : ∀ H1, Kp M H0 H1 → Tr M H1 → B.p H1 → PSs X rest (tP X.K M H1 δ' φ)) : PSs X (st :: rest) (tP X.K M H0 δ φ) :=
  p_cons (φ1 := fun H1 δ1 => B.p H1 ∧ δ1 = δ') (p_st h1 fun H' k b => ⟨b, rfl⟩) fun H1 δ1 k t ⟨f, e⟩ => e ▸ h2 H1 k t f
theorem p_all {δg : Gh → LS} (h1 : PS X st (tO X.K M (As.same H0) δ (.all fun g => .nx (Bg g) (δg g)))) (h2 : ∀ (g : Gh) H1, (∀ i, H0 (g i) = none) → Kp M H0 H1 → Tr M H1 → (Bg g).p H1 → PSs X rest (tP X.K M H1 (δg g) φ)) : PSs X (st :: rest) (tP X.K M H0 δ φ) :=
  p_cons (φ1 := fun H1 δ1 => ∃ g : Gh, (∀ i, H0 (g i) = none) ∧ (Bg g).p H1 ∧ δ1 = δg g) (p_st h1 fun g n H' k b => ⟨g, n, b, rfl⟩) fun H1 δ1 k t ⟨g, n, f, e⟩ => e ▸ h2 g H1 n k t f
theorem p_ifF {t : List Stmt} (hc : PT X c (tCT X.K M (As.same H0) δ B false)) (h2 : ∀ H1, Kp M H0 H1 → Tr M H1 → B.p H1 → PSs X rest (tP X.K M H1 δ φ)) : PSs X (.If c t [] pos :: rest) (tP X.K M H0 δ φ) := p_nx (s_ifF hc) h2
/-- an if at the end -/
theorem p_if1 {t : List Stmt} {k : Bool} (hc : PT X c (tCT X.K M (As.same H0) δ B k)) (ht : k = true → ∀ H1, Kp M H0 H1 → Tr M H1 → B.p H1 → PSs X t (tP X.K M H1 δ φ)) (hf : k = false → ∀ H1, Kp M H0 H1 → Tr M H1 → B.p H1 → φ H1 δ) : PSs X [.If c t [] pos] (tP X.K M H0 δ φ) := by
  cases k with
  | false => exact p_ifF hc fun H1 k1 t1 b1 => p_nil (hf rfl H1 k1 t1 b1)
  | true =>
    refine p_one (ps_imp (ps_if hc (pss_any (sts := t)) pss_never) fun E σ H ⟨e, tr, r, q⟩ => ?_)
    subst e
    refine ⟨⟨Same.refl H, tr, r⟩, fun H1 k1 b1 => ?_⟩
    refine iteT ?_
    exact ⟨_, ht rfl H1 k1 (tr_kp tr k1) b1, rfl, tr_kp tr k1, r.kp k1, fun σ2 H2 δ2 k2 f2 r2 => q σ2 H2 δ2 (k1.trans k2) f2 r2⟩
/-- a for -/
theorem p_for {β : Type} (enc : β → D) (bs : List β) (Inv : Nat → Hp → LS → Prop) {g : TG} {js : List Nat} {tf : D → LS → Option LS} (hp : PassesOwn (model X.prog X.w) X.A X.env X.xe) (hc : X.calm = true)
    (hi : PIt X M tg iter (As.same H0) δ B (fun _ => True) (bs.map enc)) (h0 : ∀ H1, Kp M H0 H1 → Tr M H1 → B.p H1 → Inv 0 H1 δ) (hg : PG X tg g) (tgk : TgOk X.K g js tf)
    (turn : ∀ i b H1 δ1, bs[i]? = some b → Kp M H0 H1 → Inv i H1 δ1 → ∃ δ2, tf (enc b) δ1 = some δ2 ∧ ∀ H2, Same H1 H2 → Kp M H0 H2 → Tr M H2 → PSs X body (tP X.K M H2 δ2 (Inv (i + 1))))
    (hend : ∀ H1 δ1, Kp M H0 H1 → Inv bs.length H1 δ1 → φ H1 δ1) (hs : ∀ x, foldedSetIterable iter X.env x = pure x := by intro _; rfl) : PS X (.For tg iter body [] pos) (tP X.K M H0 δ φ) := by
  obtain ⟨wi, hpi, hwi⟩ := hi.ex
  refine ps_imp (ps_for hp hc hpi hg (pss_any (sts := body)) hs) fun E σ H ⟨e, tr, r, q⟩ => ?_
  subst e
  refine hwi σ H _ ⟨Same.refl H, tr, r⟩ fun J n G Y H1 k1 b1 w hn hGY => ?_
  obtain ⟨hG, hY⟩ := hGY M fun a h => .inl h
  have tr1 := tr_kp tr k1
  refine for_it w (fun i σ' H' => Kp M H1 H' ∧ ∃ δ1, Inv i H' δ1 ∧ RelS X.K M H' σ' δ1) ⟨Kp.refl _, δ, h0 H1 k1 tr1 b1, r.kp k1⟩ (fun i σ' H' _ ⟨kp, _⟩ => hG H' kp trivial) (fun i x σ2 H2 H3 hi2 pv y => ?_) fun σ2 H2 pv => ?_
  · obtain ⟨k2, δ1, iv, s2⟩ := pv
    obtain ⟨sm, d, ed, rd⟩ := hY i H2 x H3 k2 y hi2
    have k3 : Kp M H1 H3 := k2.trans (.of_same sm)
    rw [List.getElem?_map] at ed
    cases eb : bs[i]? with
    | none =>
      rw [eb] at ed
      cases ed
    | some b =>
      rw [eb] at ed
      cases ed
      obtain ⟨δ2, ef, hb⟩ := turn i b H2 δ1 eb (k1.trans k2) iv
      refine tgk M x _ _ δ2 σ2 H3 _ ef rd (s2.kp (.of_same sm)) fun σ' s' _ => ?_
      exact ⟨_, hb H3 sm (k1.trans k3) (tr_kp tr1 k3), rfl, tr_kp tr1 k3, s', fun σ4 H4 δ4 k4 i4 s4 => ⟨k3.trans k4, δ4, i4, s4⟩⟩
  · obtain ⟨k2, δ1, iv, s2⟩ := pv
    rw [hn, List.length_map] at iv
    exact q σ2 H2 δ1 (k1.trans k2) (hend H2 δ1 (k1.trans k2) iv) s2
/-- a statement that makes lists which what follows changes -/
theorem p_own (js : List Nat) {sg : Gh → List (Nat × D)} (h1 : PS X st (tOF X.K M (As.same H0) δ Bg sg)) (tr : ∀ g H, (Bg g).p H → ∀ j ∈ js, H (g j) ≠ none)
    (h2 : ∀ (g : Gh) H1, (∀ i, H0 (g i) = none) → Kp M H0 H1 → (Bg g).p H1 → Tr (M.owns (js.map g)) H1 → PSs X rest (tP X.K (M.owns (js.map g)) H1 (setD δ (sg g)) φ)) : PSs X (st :: rest) (tP X.K M H0 δ φ) :=
  pss_imp (pss_cons h1 (pss_any (sts := rest))) fun E σ H ⟨e, t0, r, q⟩ => by
    subst e
    refine ⟨⟨Same.refl H, t0, r⟩, fun g vs H1 n k1 b1 f1 => ?_⟩
    have na : ∀ a ∈ js.map g, H a = none := fun a ha => let ⟨j, _, e⟩ := List.mem_map.mp ha; e ▸ n j
    have t1 : Tr (M.owns (js.map g)) H1 := fun a z => z.elim (fun z => k1.trk a (t0 a z)) fun z => let ⟨j, hj, e⟩ := List.mem_map.mp z; e ▸ tr g H1 b1 j hj
    exact ⟨_, h2 g H1 n k1 b1 t1, rfl, t1, f1.set ((r.more (M' := M.owns (js.map g)) fun a z => z.elim .inl fun z => .inr (na a z)).kp k1.toOwns), fun σ2 H2 δ2 k2 f2 r2 => q σ2 H2 δ2 (.ofOwns na (k1.toOwns.trans k2)) f2 (r2.less fun a z => .inl z)⟩
/-- .. then one statement that makes one of these lists, which is data from there on -/
theorem p_bld1 (js js' : List Nat) {sg : Gh → List (Nat × D)} (φg : Gh → Hp → LS → Prop) (h1 : PS X st (tOF X.K M (As.same H0) δ Bg sg)) (tr : ∀ g H, (Bg g).p H → ∀ j ∈ js, H (g j) ≠ none) (sub : ∀ j ∈ js', j ∈ js)
    (h2 : ∀ (g : Gh) H1, (∀ i, H0 (g i) = none) → Kp M H0 H1 → (Bg g).p H1 → Tr (M.owns (js.map g)) H1 → PS X lp (tP X.K (M.owns (js.map g)) H1 (setD δ (sg g)) (φg g)))
    (h3 : ∀ (g : Gh) H2 δ2, (∀ i, H0 (g i) = none) → Tr (M.owns (js'.map g)) H2 → φg g H2 δ2 → ∃ (j k : Nat) (ds : List D), δ2[j]? = some (some (.ref (g k))) ∧ ownL X.K (M.owns (js.map g)) H2 (g k) ds ∧ g k ∉ js'.map g ∧ PSs X rest (tP X.K (M.owns (js'.map g)) H2 (δ2.set j (some (.lst ds))) φ)) :
    PSs X (st :: lp :: rest) (tP X.K M H0 δ φ) :=
  pss_imp (pss_cons h1 (pss_cons (ps_anyS (st := lp)) (pss_any (sts := rest)))) fun E σ H ⟨e, t0, r, q⟩ => by
    subst e
    refine ⟨⟨Same.refl H, t0, r⟩, fun g vs H1 n k1 b1 f1 => ?_⟩
    have na : ∀ a ∈ js.map g, H a = none := fun a ha => let ⟨j, _, e⟩ := List.mem_map.mp ha; e ▸ n j
    have t1 : Tr (M.owns (js.map g)) H1 := fun a z => z.elim (fun z => k1.trk a (t0 a z)) fun z => let ⟨j, hj, e⟩ := List.mem_map.mp z; e ▸ tr g H1 b1 j hj
    have hsub : ∀ a, (M.owns (js'.map g)).x a → (M.owns (js.map g)).x a := fun a z => z.elim .inl fun z => let ⟨j, hj, e⟩ := List.mem_map.mp z; .inr (e ▸ List.mem_map.mpr ⟨j, sub j hj, rfl⟩)
    refine ⟨_, h2 g H1 n k1 b1 t1, rfl, t1, f1.set ((r.more (M' := M.owns (js.map g)) fun a z => z.elim .inl fun z => .inr (na a z)).kp k1.toOwns), fun σ2 H2 δ2 k2 f2 r2 => ?_⟩
    have t2 : Tr (M.owns (js'.map g)) H2 := fun a z => k2.trk a (t1 a (hsub a z))
    obtain ⟨j, k, ds, ej, ⟨acc, eq, lq⟩, nk, h3⟩ := h3 g H2 δ2 n t2 f2
    have nM : ¬ (M.owns (js'.map g)).x (g k) := fun z => z.elim (fun z => t0 _ z (n k)) nk
    refine ⟨_, h3, rfl, t2, ⟨by rw [List.length_set]; exact r2.1, fun i d hd => ?_⟩, fun σ3 H3 δ3 k3 f3 r3 => q σ3 H3 δ3 (.ofOwns na ((k1.toOwns.trans k2).trans (k3.less fun a z => z.elim .inl fun z => let ⟨j, hj, e⟩ := List.mem_map.mp z; .inr (e ▸ List.mem_map.mpr ⟨j, sub j hj, rfl⟩)))) f3 (r3.less fun a z => .inl z)⟩
    by_cases z : j = i
    · subst z
      have hlt := (List.getElem?_eq_some_iff.mp ej).1
      rw [List.getElem?_set_self hlt] at hd
      cases hd
      obtain ⟨v, ev, rv⟩ := r2.2 j _ ej
      cases rv
      exact ⟨_, ev, .lst eq nM (lq.less (M' := M.owns (js'.map g)) hsub)⟩
    · rw [List.getElem?_set_ne z] at hd
      obtain ⟨v, ev, rv⟩ := r2.2 i d hd
      exact ⟨v, ev, rv.less (M' := M.owns (js'.map g)) hsub _ _⟩
/-- .. two statements -/
theorem p_bld2 (js js' : List Nat) {sg : Gh → List (Nat × D)} (φa φg : Gh → Hp → LS → Prop) (h1 : PS X st (tOF X.K M (As.same H0) δ Bg sg)) (tr : ∀ g H, (Bg g).p H → ∀ j ∈ js, H (g j) ≠ none) (sub : ∀ j ∈ js', j ∈ js)
    (h2 : ∀ (g : Gh) H1, (∀ i, H0 (g i) = none) → Kp M H0 H1 → (Bg g).p H1 → Tr (M.owns (js.map g)) H1 → PS X lp (tP X.K (M.owns (js.map g)) H1 (setD δ (sg g)) (φa g)))
    (h2b : ∀ (g : Gh) H2 δ2, (∀ i, H0 (g i) = none) → Tr (M.owns (js.map g)) H2 → φa g H2 δ2 → PS X lp2 (tP X.K (M.owns (js.map g)) H2 δ2 (φg g)))
    (h3 : ∀ (g : Gh) H2 δ2, (∀ i, H0 (g i) = none) → Tr (M.owns (js'.map g)) H2 → φg g H2 δ2 → ∃ (j k : Nat) (ds : List D), δ2[j]? = some (some (.ref (g k))) ∧ ownL X.K (M.owns (js.map g)) H2 (g k) ds ∧ g k ∉ js'.map g ∧ PSs X rest (tP X.K (M.owns (js'.map g)) H2 (δ2.set j (some (.lst ds))) φ)) :
    PSs X (st :: lp :: lp2 :: rest) (tP X.K M H0 δ φ) :=
  pss_imp (pss_cons h1 (pss_cons (ps_anyS (st := lp)) (pss_cons (ps_anyS (st := lp2)) (pss_any (sts := rest))))) fun E σ H ⟨e, t0, r, q⟩ => by
    subst e
    refine ⟨⟨Same.refl H, t0, r⟩, fun g vs H1 n k1 b1 f1 => ?_⟩
    have na : ∀ a ∈ js.map g, H a = none := fun a ha => let ⟨j, _, e⟩ := List.mem_map.mp ha; e ▸ n j
    have t1 : Tr (M.owns (js.map g)) H1 := fun a z => z.elim (fun z => k1.trk a (t0 a z)) fun z => let ⟨j, hj, e⟩ := List.mem_map.mp z; e ▸ tr g H1 b1 j hj
    have hsub : ∀ a, (M.owns (js'.map g)).x a → (M.owns (js.map g)).x a := fun a z => z.elim .inl fun z => let ⟨j, hj, e⟩ := List.mem_map.mp z; .inr (e ▸ List.mem_map.mpr ⟨j, sub j hj, rfl⟩)
    refine ⟨_, h2 g H1 n k1 b1 t1, rfl, t1, f1.set ((r.more (M' := M.owns (js.map g)) fun a z => z.elim .inl fun z => .inr (na a z)).kp k1.toOwns), fun σa Ha δa ka fa ra => ⟨_, h2b g Ha δa n (tr_kp t1 ka) fa, rfl, tr_kp t1 ka, ra, fun σ2 H2 δ2 k2 f2 r2 => ?_⟩⟩
    have t2 : Tr (M.owns (js'.map g)) H2 := fun a z => k2.trk a (ka.trk a (t1 a (hsub a z)))
    obtain ⟨j, k, ds, ej, ⟨acc, eq, lq⟩, nk, h3⟩ := h3 g H2 δ2 n t2 f2
    have nM : ¬ (M.owns (js'.map g)).x (g k) := fun z => z.elim (fun z => t0 _ z (n k)) nk
    refine ⟨_, h3, rfl, t2, ⟨by rw [List.length_set]; exact r2.1, fun i d hd => ?_⟩, fun σ3 H3 δ3 k3 f3 r3 => q σ3 H3 δ3 (.ofOwns na (((k1.toOwns.trans ka).trans k2).trans (k3.less fun a z => z.elim .inl fun z => let ⟨j, hj, e⟩ := List.mem_map.mp z; .inr (e ▸ List.mem_map.mpr ⟨j, sub j hj, rfl⟩)))) f3 (r3.less fun a z => .inl z)⟩
    by_cases z : j = i
    · subst z
      have hlt := (List.getElem?_eq_some_iff.mp ej).1
      rw [List.getElem?_set_self hlt] at hd
      cases hd
      obtain ⟨v, ev, rv⟩ := r2.2 j _ ej
      cases rv
      exact ⟨_, ev, .lst eq nM (lq.less (M' := M.owns (js'.map g)) hsub)⟩
    · rw [List.getElem?_set_ne z] at hd
      obtain ⟨v, ev, rv⟩ := r2.2 i d hd
      exact ⟨v, ev, rv.less (M' := M.owns (js'.map g)) hsub _ _⟩
/-! expressions from one heap -/
theorem pe_ofG (h : PE X e (tCG X.K M (As.same H0) δ Bg dg)) : PE X e (tPE X.K M H0 δ (fun H' d' => ∃ g : Gh, (∀ i, H0 (g i) = none) ∧ (Bg g).p H' ∧ d' = dg g)) := pe_imp h fun σ H Q ⟨e, tr, r, q⟩ => by
  subst e
  exact ⟨⟨Same.refl H, tr, r⟩, fun g v H' n k b r' => q v H' (dg g) k ⟨g, n, b, rfl⟩ r'⟩
theorem pe_anyE : PE X e (fun σ H Q => ∃ t, PE X e t ∧ t σ H Q) := ⟨fun pins s σ H Q I ⟨t, h, q⟩ => h.run pins s σ H Q I q⟩
theorem p_set (i : Nat) {n : Str} {pos' : Pos} (hN : X.N.Nodup) (he : PE X e (tPE X.K M H0 δ ψ)) (hφ : ∀ H' d, Kp M H0 H' → ψ H' d → φ H' (δ.set i (some d))) (hi : X.N[i]? = some n := by rfl) (hx : Loc X.env.scope n := by first | exact Or.inl rfl | exact Or.inr rfl) (hs : swapsWith e (some (.Name n pos')) pos.line X.env = pure false := by rfl)
    (hf : X.fn n = true ∨ X.env.scope.names.lookup n = some .local := by first | exact .inl rfl | exact .inr rfl) : PS X (.Assign [.Name n pos'] e pos) (tP X.K M H0 δ φ) :=
  ps_imp (ps_set (i := i) hN hi hx he hs hf) fun E σ H ⟨e, tr, r, q⟩ => ⟨e, tr, r, fun v H' d k p r' => q _ H' _ k (hφ H' d k p) ((r.kp k).set i r')⟩
theorem p_cat (ha : PE X a (tPE X.K M H0 δ ψ1)) (hb : ∀ H1 d1, Kp M H0 H1 → Tr M H1 → ψ1 H1 d1 → ∃ ds, d1 = .lst ds ∧ PE X b (tPE X.K M H1 δ (fun H2 d2 => ∃ es, d2 = .lst es ∧ ds.length + es.length ≤ sizeLine ∧ ∀ H3, Same H2 H3 → ψ H3 (.lst (ds ++ es))))) : PE X (.BinOp a .Add b pos) (tPE X.K M H0 δ ψ) :=
  pe_imp (pe_op op_cat ha (pe_anyE (e := b))) fun σ H Q ⟨e, tr, r, q⟩ => ⟨e, tr, r, fun v H1 d1 k1 p1 r1 => by
    obtain ⟨ds, rfl, hb⟩ := hb H1 d1 k1 (tr_kp tr k1) p1
    refine ⟨_, hb, rfl, tr_kp tr k1, r.kp k1, fun w H2 d2 k2 p2 r2 => ?_⟩
    obtain ⟨es, rfl, hz, hq⟩ := p2
    obtain ⟨q1, xs, rfl, h1, m1, l1⟩ := (r1.kp k2 _ _).lst_inv
    obtain ⟨q2, ys, rfl, h2, m2, l2⟩ := r2.lst_inv
    exact ⟨q1, q2, xs, ys, rfl, rfl, h1, h2, by rw [l1.length, l2.length]; exact hz, fun p hp => q _ _ (.lst (ds ++ es)) ((k1.trans k2).trans (.new hp)) (hq _ (Same.new hp)) (.lst upd_same (tr_new (tr_kp (tr_kp tr k1) k2) hp) (Same.newK hp (l1.append l2)))⟩⟩
/-- a comprehension whose turns change the state -/
theorem p_lc {β : Type} (enc : β → D) (bs : List β) (Inv : Nat → Hp → List D → Prop) {elt : Expr} {scope : Scope} {own : List (Str × Nat)} {g : TG} {js : List Nat} {f : D → LS → Option LS} (hc : X.calm = true) (hN : X.N.Nodup) (ok : BlkOk X.N X.env.scope scope own)
    (hi : PIt X M tg iter (As.same H0) δ B (fun _ => True) (bs.map enc)) (h0 : ∀ H1, Kp M H0 H1 → B.p H1 → Inv 0 H1 []) (hg : ∀ (s : Shared) (H : Hp) (C : Addr) (cl : List (Str × Addr)) (fp : List Addr), PG (X.blk s H scope (compEnvC scope cl C X.env) fp) tg g) (tgk : TgOk X.K g js f) (hjs : ∀ j ∈ js, j ∈ own.map (·.2)) (hz : bs.length < sizeLine)
    (stab : ∀ i ds H q xs ys, H0 q = none → H q = some (.lst xs) → Inv i H ds → Inv i (upd H q (.lst ys)) ds) (mono : ∀ i ds H H', Same H H' → Inv i H ds → Inv i H' ds)
    (turn : ∀ M' : AS, (∀ a, M.x a → M'.x a) → M'.c = M.c → ∀ i b H1 ds, bs[i]? = some b → Kp M H0 H1 → Inv i H1 ds → ∃ δ', f (enc b) (wipeL δ (own.map (·.2))) = some δ' ∧
      ∀ H2, Same H1 H2 → Kp M H0 H2 → Tr M' H2 → ∀ s H C cl fp, PE (X.blk s H scope (compEnvC scope cl C X.env) fp) elt (tPE X.K M' H2 δ' (fun H' d => Inv (i + 1) H' (ds ++ [d]))))
    (hs : ∀ x, foldedSetIterable iter X.env x = pure x := by intro _; rfl) :
    PE X (.ListComp elt [⟨tg, iter, [], 0⟩] scope pos) (tPE X.K M H0 δ (fun H' d => ∃ ds, d = .lst ds ∧ Inv bs.length H' ds)) := by
  obtain ⟨wi, hpi, hwi⟩ := hi.ex
  refine pe_imp (pe_lc (tt := anyT (fun s H C cl fp => X.blk s H scope (compEnvC scope cl C X.env) fp) []) (te := anyE (fun s H C cl fp => X.blk s H scope (compEnvC scope cl C X.env) fp) elt) hc hN hpi ok hg (fun s H C cl fp => pts_any (Y := fun s H C cl fp => X.blk s H scope (compEnvC scope cl C X.env) fp) s H C cl fp) (fun s H C cl fp => pe_any (Y := fun s H C cl fp => X.blk s H scope (compEnvC scope cl C X.env) fp) s H C cl fp) hs) fun σ H Q ⟨e, tr, r, q⟩ => ?_
  subst e
  refine hwi σ H _ ⟨Same.refl H, tr, r⟩ fun J n G Y H1 k1 b1 w hn hGY => ?_
  intro D0 hD
  subst hn
  have tr1 : Tr M H1 := tr_kp tr k1
  have nM : ¬ M.x D0 := tr_new tr1 hD
  have hD0 : H D0 = none := k1.free hD
  have Mm : ∀ a, (M.hide D0).x a → M.x a ∨ H1 a = none := fun a h => h.elim .inl fun z => .inr (by rw [z]; exact hD)
  have T := turn (M.hide D0) (fun a h => .inl h) rfl
  obtain ⟨hG, hY⟩ := hGY (M.hide D0) Mm
  have s1 : RelS X.K (M.hide D0) H1 σ δ := (r.kp k1).more Mm
  have trD : ∀ H', Kp M H1 H' → (∃ acc, H' D0 = some (.lst acc)) → Tr (M.hide D0) H' := fun H' k e a m => m.elim (fun m => k.trk a (tr1 a m)) fun z => by
    obtain ⟨acc, e⟩ := e
    rw [z, e]
    exact fun z => by cases z
  have lk : ∀ {H' H'' : Hp}, Kp M H' H'' → Kp (M.hide D0) H' H'' := fun k => k.less fun _ h => h
  have kl : ∀ {H' H'' : Hp}, Kp (M.hide D0) H' H'' → Kp M H' H'' := fun k => k.less fun _ h => h
  have ncD : ¬ (M.hide D0).c D0 := fun z => nM (M.sub _ z)
  refine lc_it w (fun i H' => Kp M H1 H' ∧ ∃ ds acc, Inv i H' ds ∧ H' D0 = some (.lst acc) ∧ acc.length ≤ i ∧ RpL X.K (M.hide D0) H' acc ds) ⟨.new hD, [], [], mono 0 [] H1 _ (Same.new hD) (h0 H1 k1 b1), upd_same, Nat.le_refl _, .nil⟩ (fun i H' _ pv => hG H' (lk pv.1) trivial) (fun i x H2 H3 hi2 pv y => ?_) fun H2 pv => ?_
  · obtain ⟨k2, ds, acc, iv, e2, len2, r2⟩ := pv
    obtain ⟨sm, d, ed, rd⟩ := hY i H2 x H3 (lk k2) y hi2
    rw [List.getElem?_map] at ed
    cases eb : bs[i]? with
    | none =>
      rw [eb] at ed
      cases ed
    | some b =>
      rw [eb] at ed
      cases ed
      have hib : i < bs.length := (List.getElem?_eq_some_iff.mp eb).1
      obtain ⟨δ', ef, he⟩ := T i b H2 ds eb (k1.trans k2) iv
      have k3 : Kp M H1 H3 := k2.trans (.of_same sm)
      refine tgk (M.hide D0) x _ _ δ' _ H3 _ ef rd ((s1.kp (lk k3)).wipe _) fun σ' s' wp => ?_
      refine ⟨by rw [wp _ hjs, wipe_idem _ _ fun _ h => h], ?_⟩
      have e3 := sm _ _ e2
      have r3 := r2.kp (.of_same sm)
      have st : St0 X.K (M.hide D0) (As.same H3) δ' σ' H3 := ⟨Same.refl H3, trD H3 k3 ⟨acc, e3⟩, s'⟩
      refine ⟨tCT X.K (M.hide D0) (As.same H3) δ' (As.same H3) true, fun s H C cl fp => ts_nil (X := X.blk s H scope (compEnvC scope cl C X.env) fp), st, fun H4 k4 b4 => ?_⟩
      have b4 : Same H3 H4 := b4
      have e4 := k4.lst _ _ e3 ncD
      have k4' : Kp M H1 H4 := k3.trans (kl k4)
      have r4 := r3.kp k4
      refine iteT ?_
      refine ⟨_, fun s H C cl fp => he H4 (sm.trans b4) (k1.trans k4') (trD H4 k4' ⟨acc, e4⟩) s H C cl fp, rfl, trD H4 k4' ⟨acc, e4⟩, s'.kp k4, fun v H5 d5 k5 i5 r5 => ?_⟩
      have e5 := k5.lst _ _ e4 ncD
      have k5' : Kp M H1 H5 := k4'.trans (kl k5)
      have lt5 : acc.length < sizeLine := by omega
      have ko : Kp ((M.hide D0).own D0) H5 (upd H5 D0 (.lst (acc ++ [v]))) := .upd e5 (fun xs z => by cases z) (.inl (.inr rfl))
      have rr : RpL X.K (M.hide D0) (upd H5 D0 (.lst (acc ++ [v]))) (acc ++ [v]) (ds ++ [d5]) := by
        have q5 := (r4.kp k5).append (RpL.one r5)
        have q6 : RpL X.K ((M.hide D0).own D0) H5 (acc ++ [v]) (ds ++ [d5]) := q5.more (M' := (M.hide D0).own D0) (fun a (z : (M.hide D0).x a ∨ a = D0) => z.elim Or.inl fun z => Or.inl (show (M.hide D0).x a from Or.inr z))
        exact (q6.kp ko).less (M' := M.hide D0) fun a z => (show (M.hide D0).x a ∨ a = D0 from Or.inl z)
      refine ⟨acc, e5, lt5, ⟨?_, ds ++ [d5], acc ++ [v], stab _ _ _ _ _ _ hD0 e5 i5, upd_same, by rw [List.length_append, List.length_singleton]; omega, rr⟩⟩
      have ko' : Kp (M.own D0) H1 (upd H5 D0 (.lst (acc ++ [v]))) := (k5'.less (M' := M.own D0) fun a z => (show M.c a ∨ a = D0 from Or.inl z)).trans (.upd e5 (fun xs z => by cases z) (.inl (.inr rfl)))
      exact ko'.fewer (M := M) fun a (z : M.c a ∨ a = D0) => z.elim Or.inl fun z => Or.inr (by rw [z]; exact hD)
  · obtain ⟨k2, ds, acc, iv, e2, len2, r2⟩ := pv
    rw [List.length_map] at iv
    exact q _ H2 (.lst ds) (k1.trans k2) ⟨ds, rfl, iv⟩ (.lst e2 nM (r2.less (M' := M) fun a z => (show M.x a ∨ a = D0 from Or.inl z)))
/-- o.append(e), o a list of any data that is being made -/
theorem p_app {qa : Addr} {ds : List D} {S : List Addr} (ho : PE X o (tC X.K M (As.same H0) δ (As.same H0) (.ref qa))) (he : PE X e (tC X.K M (As.same H0) δ C d)) (hm : ∀ H, C.p H → Mv S H0 H) (hq : M.c qa) (hS : qa ∉ S) (hown : ownL X.K M H0 qa ds) (hz : ds.length < sizeLine)
    (hφ : ∀ H u, Kp M H0 H → C.p H → ownL X.K M (upd H qa u) qa (ds ++ [d]) → Mv (qa :: S) H0 (upd H qa u) → (∃ xs, H qa = some (.lst xs)) → φ (upd H qa u) δ)
    (hbase : attributeBase o "append" X.env (eval o X.env) = eval o X.env := by rfl)
    (hfew : ((backTo cpos (starEach (e :: []) X.env)).all (fun x => !x.1) && (backToKw cpos (keywordEach [] X.env)).all (fun x => x.1.isSome) && decide ((e :: []).length + ([] : List Keyword).length + (if ([] : List Keyword).isEmpty then 0 else 1) < 30)) = true := by rfl)
    (hline : (apos.endLine == cpos.line) = true := by rfl) (hs : starEach (e :: []) X.env = (false, eval e X.env) :: starEach [] X.env := by rfl) (hplain : (backTo cpos (starEach [] X.env)).any (·.1) = false := by rfl)
    (hsw : swapsWith (.Call (.Attribute o "append" apos) [e] [] cpos) none pos.line X.env = pure false := by rfl) : PS X (.Expr (.Call (.Attribute o "append" apos) [e] [] cpos) pos) (tP X.K M H0 δ φ) := by
  refine ps_imp (ps_expr (pe_bm PySem.F.plainAttrs_list PySem.F.slot_list_append PySem.F.type_list_append mt_append ho (pa_cons (pe_anyE (e := e)) pa_nil hs) hbase hfew hline hs hplain) hsw) fun E σ H ⟨e, tr, r, q⟩ => ?_
  subst e
  obtain ⟨acc, e0, l0⟩ := hown
  refine ⟨⟨Same.refl H, tr, r⟩, fun v H1 k1 b1 r1 => ?_⟩
  cases r1
  have b1 : Same H H1 := b1
  have e1 := b1 _ _ e0
  refine ⟨.inl ⟨rfl, acc, SqL.of e1⟩, _, he, ⟨b1, tr_kp tr k1, r.kp k1⟩, fun v2 H2 k2 c2 r2 => ?_⟩
  have m2 := hm H2 c2
  have e2 := m2.keep _ _ e0 hS
  have k02 := k1.trans k2
  have ku : Kp M H2 (upd H2 qa (.lst (acc ++ [v2]))) := .upd e2 (fun _ z => by cases z) (.inl hq)
  refine ⟨qa, acc, v2, rfl, rfl, e2, by rw [l0.length]; exact hz, ?_⟩
  refine q σ _ δ (k02.trans ku) (hφ H2 _ k02 c2 ⟨_, upd_same, ((l0.kp k02).append (RpL.one r2)).kp ku _ _⟩ ?_ ⟨acc, e2⟩) ((r.kp k02).kp ku)
  exact (m2.sub fun a h => List.mem_cons_of_mem _ h).trans (.upd e2 (fun _ z => by cases z) (by simp))
/-- o.insert(i, e) -/
theorem p_ins {qa : Addr} {ds : List D} {S : List Addr} {k : Nat} {e2 : Expr} (ho : PE X o (tC X.K M (As.same H0) δ (As.same H0) (.ref qa))) (hi : PE X e (tC X.K M (As.same H0) δ B (.int (k : Nat)))) (he : PE X e2 (tC X.K M B δ C d)) (hm : ∀ H, C.p H → Mv S H0 H) (hq : M.c qa) (hS : qa ∉ S) (hown : ownL X.K M H0 qa ds) (hk : k ≤ 1000) (hz : ds.length < sizeLine)
    (hφ : ∀ H u, Kp M H0 H → C.p H → ownL X.K M (upd H qa u) qa (ds.take k ++ [d] ++ ds.drop k) → Mv (qa :: S) H0 (upd H qa u) → (∃ xs, H qa = some (.lst xs)) → φ (upd H qa u) δ)
    (hbase : attributeBase o "insert" X.env (eval o X.env) = eval o X.env := by rfl)
    (hfew : ((backTo cpos (starEach (e :: [e2]) X.env)).all (fun x => !x.1) && (backToKw cpos (keywordEach [] X.env)).all (fun x => x.1.isSome) && decide ((e :: [e2]).length + ([] : List Keyword).length + (if ([] : List Keyword).isEmpty then 0 else 1) < 30)) = true := by rfl)
    (hline : (apos.endLine == cpos.line) = true := by rfl) (hs : starEach (e :: [e2]) X.env = (false, eval e X.env) :: starEach [e2] X.env := by rfl) (hs2 : starEach (e2 :: []) X.env = (false, eval e2 X.env) :: starEach [] X.env := by rfl) (hplain : (backTo cpos (starEach [e2] X.env)).any (·.1) = false := by rfl)
    (hsw : swapsWith (.Call (.Attribute o "insert" apos) [e, e2] [] cpos) none pos.line X.env = pure false := by rfl) : PS X (.Expr (.Call (.Attribute o "insert" apos) [e, e2] [] cpos) pos) (tP X.K M H0 δ φ) := by
  refine ps_imp (ps_expr (pe_bm PySem.F.plainAttrs_list PySem.F.slot_list_insert PySem.F.type_list_insert mt_insert ho (pa_cons (pe_anyE (e := e)) (pa_cons (pe_anyE (e := e2)) pa_nil hs2) hs) hbase hfew hline hs hplain) hsw) fun E σ H ⟨e, tr, r, q⟩ => ?_
  subst e
  obtain ⟨acc, e0, l0⟩ := hown
  refine ⟨⟨Same.refl H, tr, r⟩, fun v H1 k1 b1 r1 => ?_⟩
  cases r1
  have b1 : Same H H1 := b1
  have e1 := b1 _ _ e0
  refine ⟨.inl ⟨rfl, acc, SqL.of e1⟩, _, hi, ⟨b1, tr_kp tr k1, r.kp k1⟩, fun v2 H2 k2 c2 r2 => ⟨_, he, ⟨c2, tr_kp tr (k1.trans k2), r.kp (k1.trans k2)⟩, fun v3 H3 k3 c3 r3 => ?_⟩⟩
  cases r2
  have m2 := hm H3 c3
  have e2 := m2.keep _ _ e0 hS
  have k03 := (k1.trans k2).trans k3
  have ku : Kp M H3 (upd H3 qa (.lst (acc.take k ++ [v3] ++ acc.drop k))) := .upd e2 (fun _ z => by cases z) (.inl hq)
  refine ⟨qa, acc, (k : Nat), v3, rfl, rfl, e2, by rw [l0.length]; exact hz, by omega, by omega, ?_⟩
  rw [Int.toNat_natCast]
  have l3 := l0.kp k03
  refine q σ _ δ (k03.trans ku) (hφ H3 _ k03 c3 ⟨_, upd_same, (((l3.take k).append (RpL.one r3)).append (l3.drop k)).kp ku _ _⟩ ?_ ⟨acc, e2⟩) ((r.kp k03).kp ku)
  exact (m2.sub fun a h => List.mem_cons_of_mem _ h).trans (.upd e2 (fun _ z => by cases z) (by simp))
/-- len of such a list -/
theorem e_lenQ {q : Addr} {n : Nat} (hm : X.mg "len" = none) (h : PE X e (tC X.K M A δ B (.ref q))) (hl : ∀ H, B.p H → ∃ xs, H q = some (.lst xs) ∧ xs.length = n) (hg : Gl X "len" := by rfl) (hs : starEach (e :: []) X.env = (false, eval e X.env) :: starEach [] X.env := by rfl) (hpl : (backTo pos (starEach [] X.env)).any (·.1) = false := by rfl) : PE X (.Call (.Name "len" p) [e] [] pos) (tC X.K M A δ B (.int n)) :=
  e_callB call_len (a_one h hs) (fun H vs c t r Q q => by
    cases r with
    | cons r1 r2 =>
      cases r2
      cases r1
      obtain ⟨xs, e1, l1⟩ := hl H c
      exact ⟨_, n, rfl, .inl ⟨xs, SqL.of e1, l1.symm⟩, q _ H (Same.refl H) (.int _)⟩) hm PySem.boot_len hg (by decide) (by decide) hs hpl
/-- a, b = e1, e2 with new things -/
theorem s_parG (i j : Nat) {n m : Str} {px py pt : Pos} {kt k2 pt2} {d1 d2 : Gh → D} (hc : X.calm = true) (hN : X.N.Nodup) (hi : X.N[i]? = some n) (hj : X.N[j]? = some m) (hij : i ≠ j) (hx : X.env.scope.names.lookup n = some .local) (hy : X.env.scope.names.lookup m = some .local)
    (ha : PA X [a, b] (tCAG X.K M A δ Bg (fun g => [d1 g, d2 g]))) (hw : swappedStores [.Tuple [.Name n px, .Name m py] kt pt] (.Tuple [a, b] k2 pt2) X.env = pure (some [n, m])) (hs : swapsWithSole [.Tuple [.Name n px, .Name m py] kt pt] (.Tuple [a, b] k2 pt2) pos.line X.env = pure false := by rfl) :
    PS X (.Assign [.Tuple [.Name n px, .Name m py] kt pt] (.Tuple [a, b] k2 pt2) pos) (tO X.K M A δ (.all fun g => .nx (Bg g) ((δ.set i (some (d1 g))).set j (some (d2 g))))) :=
  ps_imp (ps_par hc hN hi hj hij hx hy ha hw hs) fun E σ H ⟨s, q⟩ => ⟨s, fun g vs H1 n1 k1 b1 r1 => by
    cases r1 with
    | cons r1 r2 => cases r2 with
      | cons r2 r3 =>
        cases r3
        exact ⟨_, _, rfl, q g n1 _ H1 k1 b1 (((s.s.kp k1).set i r1).set j r2)⟩⟩
end
end Dx
set_option Elab.async false
set_option linter.all false
set_option maxRecDepth 100000
set_option maxHeartbeats 4000000
namespace RQ
open PySem PySem.Spec PyProof.Rows L2 Dx
/-! ### data that == may compare -/
structure OkD (k : Nat) (d : D) : Prop where
  plain : plainD d = true
  can : PyData.canLay0 (toPy d) = true
  dep : PyData.depth (toPy d) ≤ k
theorem OkD.shaped {k : Nat} {d : D} (h : OkD k d) (hk : k ≤ 64) : SeqAt.shaped (toPy d) = true := Bool.and_eq_true_iff.mpr ⟨h.can, decide_eq_true (Nat.le_trans h.dep hk)⟩
theorem OkD.refl {k : Nat} {d : D} (h : OkD k d) : PyData.eqv (toPy d) (toPy d) = true := SeqAt.eqv_refl _ h.can
theorem OkD.mono {j k : Nat} {d : D} (h : OkD j d) (l : j ≤ k) : OkD k d := ⟨h.plain, h.can, Nat.le_trans h.dep l⟩
theorem ok_non {k : Nat} : OkD k .non := ⟨rfl, rfl, Nat.zero_le _⟩
theorem ok_bl {k : Nat} (b : Bool) : OkD k (.bl b) := ⟨rfl, rfl, Nat.zero_le _⟩
theorem ok_int {k : Nat} (i : Int) : OkD k (.int i) := ⟨rfl, rfl, Nat.zero_le _⟩
theorem ok_str {k : Nat} {x : Str} (h : PyData.strOk x = true) : OkD k (.str x) := ⟨rfl, h, Nat.zero_le _⟩
theorem okL {k : Nat} : ∀ {ds : List D}, (∀ d ∈ ds, OkD k d) → plainL ds = true ∧ PyData.canLayAll0 (toPyL ds) = true ∧ PyData.depthAll (toPyL ds) ≤ k
  | [], _ => ⟨rfl, rfl, Nat.zero_le _⟩
  | d :: ds, h => by
    obtain ⟨h1, h2, h3⟩ := okL (ds := ds) fun e he => h e (by simp [he])
    obtain ⟨k1, k2, k3⟩ := h d (by simp)
    refine ⟨Bool.and_eq_true_iff.mpr ⟨k1, h1⟩, Bool.and_eq_true_iff.mpr ⟨k2, h2⟩, ?_⟩
    show max (PyData.depth (toPy d)) (PyData.depthAll (toPyL ds)) ≤ k
    omega
theorem ok_lst {k : Nat} {ds : List D} (h : ∀ d ∈ ds, OkD k d) : OkD (k + 1) (.lst ds) := let ⟨h1, h2, h3⟩ := okL h; ⟨h1, h2, Nat.succ_le_succ h3⟩
theorem ok_tup {k : Nat} {ds : List D} (h : ∀ d ∈ ds, OkD k d) : OkD (k + 1) (.tup ds) := let ⟨h1, h2, h3⟩ := okL h; ⟨h1, h2, Nat.succ_le_succ h3⟩
theorem ok_oI {k : Nat} (o : Option Int) : OkD k (oI o) := by
  cases o with
  | none => exact ok_non
  | some i => exact ok_int i
/-! ### texts of a table -/
def TabS (tab : Tab) : Prop := ∀ e ∈ tab, PyData.strOk e.1 = true ∧ PyData.strOk e.2.place = true
theorem TabS.nil : TabS [] := fun e h => by cases h
theorem getR_s {tab : Tab} (h : TabS tab) (k : Str) : PyData.strOk (getR tab k).place = true := by
  unfold getR
  cases e : tab.lookup k with
  | none => exact (by decide +kernel : PyData.strOk Str.empty = true)
  | some r => exact (h _ (lookup_mem e)).2
theorem setT_s {tab : Tab} {k : Str} {r : QRow} (h : TabS tab) (hr : PyData.strOk r.place = true) : TabS (setT tab k r) := fun e he => by
  unfold setT at he
  obtain ⟨e0, h0, rfl⟩ := List.mem_map.mp he
  by_cases z : e0.1 = k
  · rw [if_pos z]
    exact ⟨(h e0 h0).1, hr⟩
  · rw [if_neg z]
    exact h e0 h0
theorem fallenM_s (S : Cfg) (r : QRow) (when : Int) : PyData.strOk (fallenM S r when).place = true := by
  unfold fallenM
  split
  · exact (by decide +kernel : PyData.strOk "dead" = true)
  · exact (by decide +kernel : PyData.strOk "ready" = true)
theorem settledM_s {S : Cfg} {now : Int} {r : QRow} (h : PyData.strOk r.place = true) : PyData.strOk (settledM S now r).place = true := by
  unfold settledM
  split
  · split
    · exact fallenM_s S r _
    · exact h
  · exact h
theorem settledT_s {S : Cfg} {now : Int} {tab : Tab} (h : TabS tab) : TabS (settledT S now tab) := fun e he => by
  obtain ⟨e0, h0, rfl⟩ := List.mem_map.mp he
  exact ⟨(h e0 h0).1, settledM_s (h e0 h0).2⟩
theorem settledT_keys (S : Cfg) (now : Int) (tab : Tab) : (settledT S now tab).map (·.1) = tab.map (·.1) := by
  unfold settledT
  rw [List.map_map] <;> rfl
theorem movedT_s {tab : Tab} {n p : Str} {tm : Option Int} (h : TabS tab) (hp : PyData.strOk p = true) : TabS (movedT tab n p tm) := setT_s h hp
theorem triedT_s {tab : Tab} {n : Str} (h : TabS tab) : TabS (triedT tab n) := setT_s h (getR_s h n)
theorem backT_s {S : Cfg} {now : Int} {tab : Tab} {n : Str} (h : TabS tab) : TabS (backT S now tab n) := setT_s h (fallenM_s S _ _)
theorem ok_held : PyData.strOk "held" = true := by decide +kernel
theorem ok_ready : PyData.strOk "ready" = true := by decide +kernel
theorem ok_done : PyData.strOk "done" = true := by decide +kernel
theorem ok_yet : PyData.strOk "yet" = true := by decide +kernel
theorem takeStep_s {S : Cfg} {now : Int} {n : Str} {s : Tab × List (Str × Int)} (h : TabS s.1) : TabS (takeStep S now n s).1 ∧ (takeStep S now n s).1.map (·.1) = s.1.map (·.1) := by
  have h1 : TabS (movedT s.1 n "held" (untilM S now)) := movedT_s h ok_held
  have key : ∀ tb : Tab, TabS tb → tb.map (·.1) = s.1.map (·.1) → TabS (setT tb n { getR tb n with token := (getR tb n).token + 1 }) ∧ (setT tb n { getR tb n with token := (getR tb n).token + 1 }).map (·.1) = s.1.map (·.1) := fun tb a b => ⟨setT_s a (getR_s a n), (setT_keys _ _ _).trans b⟩
  unfold takeStep
  by_cases hc : sg S "count" = "take"
  · rw [if_pos hc]
    exact key _ (triedT_s h1) ((setT_keys _ _ _).trans (setT_keys _ _ _))
  · rw [if_neg hc]
    exact key _ h1 (setT_keys _ _ _)
theorem takes_s {S : Cfg} {now : Int} : ∀ (ns : List Str) (s : Tab × List (Str × Int)), TabS s.1 → (∀ n ∈ ns, PyData.strOk n = true) → (∀ p ∈ s.2, PyData.strOk p.1 = true) →
    TabS (ns.foldl (fun s n => takeStep S now n s) s).1 ∧ (ns.foldl (fun s n => takeStep S now n s) s).1.map (·.1) = s.1.map (·.1) ∧ ∀ p ∈ (ns.foldl (fun s n => takeStep S now n s) s).2, PyData.strOk p.1 = true
  | [], s, h, _, h2 => ⟨h, rfl, h2⟩
  | n :: ns, s, h, hn, h2 => by
    obtain ⟨k1, k2⟩ := takeStep_s (S := S) (now := now) (n := n) h
    obtain ⟨m1, m2, m3⟩ := takes_s ns (takeStep S now n s) k1 (fun m hm => hn m (by simp [hm])) fun p hp => by
      have hp : p ∈ s.2 ++ [_] := hp
      rcases List.mem_append.mp hp with z | z
      · exact h2 p z
      · rw [List.mem_singleton.mp z]
        exact hn n (by simp)
    exact ⟨m1, m2.trans k2, m3⟩
theorem keys_s {tab : Tab} (h : TabS tab) {n : Str} (hn : n ∈ tab.map (·.1)) : PyData.strOk n = true := by
  obtain ⟨e, he, rfl⟩ := List.mem_map.mp hn
  exact (h e he).1
theorem letT_s {S : Cfg} {now : Int} {tab : Tab} {w n : Str} {held : Bool} (h : TabS tab) : TabS (letT S now tab w n held) ∧ (letT S now tab w n held).map (·.1) = tab.map (·.1) := by
  unfold letT
  split
  · split
    · exact ⟨movedT_s h ok_ready, setT_keys _ _ _⟩
    · exact ⟨h, rfl⟩
  · split
    · split
      · exact ⟨backT_s (triedT_s h), (setT_keys _ _ _).trans (setT_keys _ _ _)⟩
      · exact ⟨backT_s h, setT_keys _ _ _⟩
    · exact ⟨h, rfl⟩
theorem tokT_s {S : Cfg} {now : Int} {tab : Tab} {w n : Str} {token : Int} (h : TabS tab) : TabS (tokT S now tab w n token) ∧ (tokT S now tab w n token).map (·.1) = tab.map (·.1) := by
  unfold tokT
  split
  · split
    · exact ⟨backT_s h, setT_keys _ _ _⟩
    · exact ⟨h, rfl⟩
  · split
    · exact ⟨movedT_s h ok_done, setT_keys _ _ _⟩
    · exact letT_s h
theorem letV_ok (S : Cfg) (now : Int) (tab : Tab) (w n : Str) (held : Bool) : OkD 2 (letV S now tab w n held) := by
  unfold letV
  split
  · exact ok_non
  · split <;> exact ok_bl _
theorem tokV_ok (S : Cfg) (now : Int) (tab : Tab) (w n : Str) (token : Int) : OkD 2 (tokV S now tab w n token) := by
  unfold tokV
  split
  · split <;> exact ok_bl _
  · split
    · exact ok_non
    · exact letV_ok _ _ _ _ _ _
theorem followL_mem {tab : Tab} {n m : Str} (h : m ∈ followL tab n) : m ∈ tab.map (·.1) := by
  unfold followL at h
  obtain ⟨e, he, rfl⟩ := List.mem_map.mp h
  exact List.mem_map.mpr ⟨e, (List.mem_filter.mp he).1, rfl⟩
theorem follows_s {now : Int} : ∀ (ns : List Str) (tb : Tab), TabS tb → TabS (ns.foldl (fun tb one => movedT tb one "ready" (some now)) tb) ∧ (ns.foldl (fun tb one => movedT tb one "ready" (some now)) tb).map (·.1) = tb.map (·.1)
  | [], tb, h => ⟨h, rfl⟩
  | n :: ns, tb, h => by
    obtain ⟨k1, k2⟩ := follows_s (now := now) ns (movedT tb n "ready" (some now)) (movedT_s h ok_ready)
    exact ⟨k1, k2.trans (setT_keys _ _ _)⟩
/-- the names that a deed adds -/
def newNs : Deed → List Str
  | .put n _ _ _ _ => [n]
  | _ => []
def DeedS : Deed → Prop
  | .put n _ _ _ _ => PyData.strOk n = true
  | _ => True
theorem done_s {S : Cfg} {now : Int} {tab : Tab} {dd : Deed} (h : TabS tab) (hd : DeedS dd) : TabS (doneM S now tab dd).1 ∧ (doneM S now tab dd).1.map (·.1) = tab.map (·.1) ++ newNs dd ∧ OkD 2 (doneM S now tab dd).2 := by
  cases dd with
  | put n key weight due origin =>
    refine ⟨fun e he => ?_, by show (tab ++ [_]).map _ = _; rw [List.map_append] <;> rfl, ok_non⟩
    rcases List.mem_append.mp he with z | z
    · exact h e z
    · rw [List.mem_singleton.mp z]
      refine ⟨hd, ?_⟩
      cases origin with
      | none => exact ok_ready
      | some o => exact ok_yet
  | take many =>
    obtain ⟨k1, k2, k3⟩ := takes_s (S := S) (now := now) (takenM S tab now many) (tab, []) h (fun n hn => keys_s h (takenM_mem hn)) fun p hp => by cases hp
    refine ⟨k1, by rw [show newNs (.take many) = [] from rfl, List.append_nil]; exact k2, ok_lst fun d hd' => ?_⟩
    obtain ⟨p, hp, rfl⟩ := List.mem_map.mp hd'
    exact ok_tup fun d hd'' => by
      rcases List.mem_cons.mp hd'' with z | z
      · rw [z]; exact ok_str (k := 0) (k3 p hp)
      · rw [List.mem_singleton.mp z]; exact ok_int _
  | eff n =>
    refine ⟨?_, ?_, ok_bl _⟩
    · show TabS (if _ then _ else _)
      split
      · exact h
      · exact setT_s h (getR_s h n)
    · show List.map _ (if _ then _ else _) = _ ++ []
      rw [List.append_nil]
      split
      · rfl
      · exact setT_keys _ _ _
  | fol n =>
    obtain ⟨k1, k2⟩ := follows_s (now := now) (followL tab n) tab h
    refine ⟨k1, by rw [show newNs (.fol n) = [] from rfl, List.append_nil]; exact k2, (ok_lst (k := 0) fun d hd' => ?_).mono (by decide)⟩
    obtain ⟨m, hm, rfl⟩ := List.mem_map.mp hd'
    exact ok_str (keys_s h (followL_mem hm))
  | tok w n token =>
    obtain ⟨k1, k2⟩ := tokT_s (S := S) (now := now) (w := w) (n := n) (token := token) h
    exact ⟨k1, by rw [show newNs (.tok w n token) = [] from rfl, List.append_nil]; exact k2, tokV_ok _ _ _ _ _ _⟩
theorem dones_s {S : Cfg} {now : Int} : ∀ (deeds : List Deed) (tab : Tab), TabS tab → (∀ d ∈ deeds, DeedS d) → TabS (fins (fun dd tb => doneM S now tb dd) deeds tab) ∧ (fins (fun dd tb => doneM S now tb dd) deeds tab).map (·.1) = tab.map (·.1) ++ deeds.flatMap newNs ∧ ∀ d ∈ outs (fun dd tb => doneM S now tb dd) deeds tab, OkD 2 d
  | [], tab, h, _ => ⟨h, by simp [fins], fun d hd => by cases hd⟩
  | dd :: ds, tab, h, k => by
    obtain ⟨a1, a2, a3⟩ := done_s (S := S) (now := now) h (k dd (by simp))
    obtain ⟨b1, b2, b3⟩ := dones_s (S := S) (now := now) ds (doneM S now tab dd).1 a1 fun d hd => k d (by simp [hd])
    refine ⟨b1, ?_, fun d hd => ?_⟩
    · show (fins (fun dd tb => doneM S now tb dd) ds (doneM S now tab dd).1).map (·.1) = _
      rw [b2, a2, List.flatMap_cons, List.append_assoc]
    · rcases List.mem_cons.mp hd with z | z
      · rw [z]; exact a3
      · exact b3 d z
theorem doT_s {S : Cfg} {now : Int} {tab : Tab} {deeds : List Deed} (h : TabS tab) (k : ∀ d ∈ deeds, DeedS d) : TabS (doT S now tab deeds) ∧ (doT S now tab deeds).map (·.1) = tab.map (·.1) ++ deeds.flatMap newNs ∧ OkD 3 (.lst (doR S now tab deeds)) := by
  obtain ⟨h1, h2, h3⟩ := dones_s (S := S) (now := now) deeds (settledT S now tab) (settledT_s h) k
  exact ⟨h1, by rw [← settledT_keys S now tab]; exact h2, ok_lst h3⟩
theorem shown_ok {S : Cfg} {clk : Int} {tab : Tab} (h : TabS tab) : OkD 4 (shownD S clk tab) := by
  refine ok_lst (k := 3) fun d hd => ?_
  simp only [List.mem_cons, List.not_mem_nil, or_false] at hd
  rcases hd with e | e | e | e
  · rw [e]; exact ok_int _
  · rw [e]; exact ok_oI _
  · rw [e]
    refine ok_lst (k := 2) fun d hd => ?_
    obtain ⟨n, hn, rfl⟩ := List.mem_map.mp hd
    refine ok_tup (k := 1) fun d hd => ?_
    rcases List.mem_cons.mp hd with z | z
    · rw [z]; exact ok_str (keys_s h hn)
    · rw [List.mem_singleton.mp z]
      refine ok_tup (k := 0) fun d hd => ?_
      simp only [List.mem_cons, List.not_mem_nil, or_false] at hd
      rcases hd with e | e | e | e | e
      · rw [e]; exact ok_str (getR_s h n)
      · rw [e]; exact ok_oI _
      · rw [e]; exact ok_int _
      · rw [e]; exact ok_int _
      · rw [e]; exact ok_int _
  · rw [e]
    refine (ok_lst (k := 0) fun d hd => ?_).mono (by decide)
    obtain ⟨n, hn, rfl⟩ := List.mem_map.mp hd
    exact ok_str (keys_s h (takenM_mem hn))
end RQ
set_option Elab.async false
set_option linter.all false
set_option maxRecDepth 100000
set_option maxHeartbeats 4000000
namespace RQ
open PySem PySem.Spec PyProof.Rows L2 Dx
/-! ### logs in order -/
def SSo (es : Log) : Prop := es.Pairwise fun a b => a.1 < b.1
theorem place_none {es : Log} {now : Int} (h : ∀ e ∈ es, now < e.1) : placeM es now = 0 := by
  unfold placeM
  rw [List.length_eq_zero_iff, List.filter_eq_nil_iff]
  intro e he z
  have := of_decide_eq_true z
  have := h e he
  omega
theorem lateL_yes {p : Int × List Deed} {es : Log} {now : Int} {d : List Deed} (h : p.1 ≤ now) : lateL (p :: es) now d = p :: lateL es now d := by
  have e : placeM (p :: es) now = placeM es now + 1 := by
    unfold placeM
    rw [List.filter_cons, if_pos (decide_eq_true h)] <;> rfl
  unfold lateL
  rw [e] <;> rfl
theorem lateL_no {es : Log} {now : Int} {d : List Deed} (h : ∀ e ∈ es, now < e.1) : lateL es now d = (now, d) :: es := by
  unfold lateL
  rw [place_none h] <;> rfl
theorem late_sorted {now : Int} {d : List Deed} : ∀ {es : Log}, SSo es → (∀ e ∈ es, e.1 ≠ now) → SSo (lateL es now d) ∧ (lateL es now d).Perm ((now, d) :: es)
  | [], _, _ => by
    rw [lateL_no fun e he => by cases he]
    exact ⟨List.pairwise_singleton _ _, List.Perm.refl _⟩
  | p :: es, h, n => by
    obtain ⟨h1, h2⟩ := List.pairwise_cons.mp h
    by_cases z : p.1 ≤ now
    · rw [lateL_yes z]
      obtain ⟨k1, k2⟩ := late_sorted (d := d) h2 fun e he => n e (by simp [he])
      have hp : p.1 < now := by have := n p (by simp); omega
      refine ⟨List.pairwise_cons.mpr ⟨fun e he => ?_, k1⟩, (List.Perm.cons p k2).trans (List.Perm.swap _ _ _)⟩
      rcases List.mem_cons.mp (k2.mem_iff.mp he) with e0 | e0
      · rw [e0]; exact hp
      · exact h1 e e0
    · rw [lateL_no fun e he => by
        rcases List.mem_cons.mp he with e0 | e0
        · rw [e0]; omega
        · have := h1 e e0; omega]
      refine ⟨List.pairwise_cons.mpr ⟨fun e he => ?_, h⟩, List.Perm.refl _⟩
      show now < e.1
      rcases List.mem_cons.mp he with e0 | e0
      · rw [e0]; omega
      · have := h1 e e0; omega
theorem sorted_unique : ∀ {a b : Log}, SSo a → SSo b → a.Perm b → a = b
  | [], b, _, _, p => (List.nil_perm.mp p).symm
  | x :: a, [], _, _, p => absurd p.length_eq (by simp)
  | x :: a, y :: b, ha, hb, p => by
    obtain ⟨a1, a2⟩ := List.pairwise_cons.mp ha
    obtain ⟨b1, b2⟩ := List.pairwise_cons.mp hb
    have e : x = y := by
      rcases List.mem_cons.mp (p.mem_iff.mp (List.mem_cons_self)) with z | z
      · exact z
      · rcases List.mem_cons.mp (p.mem_iff.mpr (List.mem_cons_self (a := y))) with z2 | z2
        · exact z2.symm
        · have := a1 y z2
          have := b1 x z
          omega
    subst e
    rw [sorted_unique a2 b2 ((List.perm_cons x).mp p)]
def lates (es ts : Log) : Log := ts.foldl (fun es p => lateL es p.1 p.2) es
theorem lates_ok : ∀ {ts es : Log}, SSo es → ((es ++ ts).map (·.1)).Nodup → SSo (lates es ts) ∧ (lates es ts).Perm (es ++ ts)
  | [], es, h, _ => ⟨h, by rw [List.append_nil]; exact List.Perm.refl _⟩
  | p :: ts, es, h, n => by
    rw [List.map_append] at n
    obtain ⟨n1, n2, n3⟩ := List.nodup_append.mp n
    obtain ⟨k1, k2⟩ := late_sorted (now := p.1) (d := p.2) h fun e he z => n3 e.1 (List.mem_map.mpr ⟨e, he, rfl⟩) p.1 (by simp) z
    have hp : (lateL es p.1 p.2 ++ ts).Perm (es ++ p :: ts) := (k2.append_right ts).trans (List.perm_middle.symm)
    obtain ⟨m1, m2⟩ := lates_ok (ts := ts) k1 ((hp.map (·.1)).nodup_iff.mpr (by rw [List.map_append]; exact n))
    exact ⟨m1, m2.trans hp⟩
/-- put in in any order, the log is the one in order -/
theorem lates_eq {es ts us : Log} (h : SSo (es ++ us)) (p : ts.Perm us) : lates es ts = es ++ us := by
  have hn : ∀ l : Log, SSo l → (l.map (·.1)).Nodup := fun l hl => by
    induction l with
    | nil => exact List.nodup_nil
    | cons x l ih =>
      obtain ⟨a1, a2⟩ := List.pairwise_cons.mp hl
      refine List.nodup_cons.mpr ⟨fun z => ?_, ih a2⟩
      obtain ⟨y, hy, e⟩ := List.mem_map.mp z
      have := a1 y hy
      have e : y.1 = x.1 := e
      omega
  have pp : (es ++ ts).Perm (es ++ us) := p.append_left es
  obtain ⟨k1, k2⟩ := lates_ok (ts := ts) (List.pairwise_append.mp h).1 ((pp.map (·.1)).nodup_iff.mpr (hn _ h))
  exact sorted_unique k1 h (k2.trans pp)
theorem SSo.nodup : ∀ {l : Log}, SSo l → (l.map (·.1)).Nodup
  | [], _ => List.nodup_nil
  | x :: l, hl => by
    obtain ⟨a1, a2⟩ := List.pairwise_cons.mp hl
    refine List.nodup_cons.mpr ⟨fun z => ?_, SSo.nodup a2⟩
    obtain ⟨y, hy, e⟩ := List.mem_map.mp z
    have := a1 y hy
    have e : y.1 = x.1 := e
    omega
theorem SSo.inj {l : Log} (h : SSo l) {x y : Int × List Deed} (hx : x ∈ l) (hy : y ∈ l) (e : x.1 = y.1) : x = y := by
  induction l with
  | nil => cases hx
  | cons z l ih =>
    obtain ⟨a1, a2⟩ := List.pairwise_cons.mp h
    rcases List.mem_cons.mp hx with u | u
    · rcases List.mem_cons.mp hy with v | v
      · rw [u, v]
      · have := a1 y v
        rw [← u] at this
        omega
    · rcases List.mem_cons.mp hy with v | v
      · have := a1 x u
        rw [← v] at this
        omega
      · exact ih a2 u v
/-! ### deeds that are never refused -/
def deedIn (names : List Str) : Deed → Prop
  | .put .. => False
  | .take _ => True
  | .eff n => n ∈ names
  | .fol n => n ∈ names
  | .tok w n _ => n ∈ names ∧ w ∈ [("finish" : Str), "fail", "give", "lost"]
structure EntG (names : List Str) (p : Int × List Deed) : Prop where
  deeds : ∀ d ∈ p.2, deedIn names d
  len : p.2.length ≤ 1000
structure StG (names : List Str) (s : QSt) : Prop where
  keys : s.1.map (·.1) = names
  ts : TabS s.1
  ok : TabOk s.1
theorem isSome_key {tab : Tab} {n : Str} (h : n ∈ tab.map (·.1)) : (tab.lookup n).isSome = true := lookup_of_key h
theorem deedIn_ok {S : Cfg} {names : List Str} {tab : Tab} (hf : sg S "fence" ≠ "yes") (hk : tab.map (·.1) = names) {d : Deed} (h : deedIn names d) : DeedOk S tab d ∧ newNs d = [] ∧ DeedS d := by
  cases d with
  | put => exact h.elim
  | take => exact ⟨trivial, rfl, trivial⟩
  | eff n => exact ⟨isSome_key (hk ▸ h), rfl, trivial⟩
  | fol n => exact ⟨isSome_key (hk ▸ h), rfl, trivial⟩
  | tok w n t => exact ⟨⟨isSome_key (hk ▸ h.1), h.2, hf⟩, rfl, trivial⟩
theorem deeds_ok {S : Cfg} {names : List Str} {now : Int} (hf : sg S "fence" ≠ "yes") : ∀ {ds : List Deed} {tab : Tab}, TabS tab → tab.map (·.1) = names → (∀ d ∈ ds, deedIn names d) → DeedsOk S now tab ds ∧ ds.flatMap newNs = []
  | [], _, _, _, _ => ⟨trivial, rfl⟩
  | d :: ds, tab, ht, hk, h => by
    obtain ⟨k1, k2, k3⟩ := deedIn_ok hf hk (h d (by simp))
    obtain ⟨m1, m2, m3⟩ := done_s (S := S) (now := now) ht k3
    obtain ⟨l1, l2⟩ := deeds_ok (now := now) hf (ds := ds) m1 (by rw [m2, k2, List.append_nil]; exact hk) fun e he => h e (by simp [he])
    exact ⟨⟨k1, l1⟩, by rw [List.flatMap_cons, k2, l2] <;> rfl⟩
theorem ent_ok {S : Cfg} {names : List Str} {s : QSt} {p : Int × List Deed} (hf : sg S "fence" ≠ "yes") (hs : StG names s) (hp : EntG names p) (ht : s.2 ≤ p.1) : EntOk S s p ∧ StG names (runE S s p) ∧ OkD 3 (.lst (doR S p.1 s.1 p.2)) := by
  obtain ⟨h1, h2⟩ := deeds_ok (now := p.1) hf (settledT_s (S := S) (now := p.1) hs.ts) (by rw [settledT_keys]; exact hs.keys) hp.deeds
  have hd : ∀ d ∈ p.2, DeedS d := fun d hd => (deedIn_ok (S := S) hf hs.keys (hp.deeds d hd)).2.2
  obtain ⟨k1, k2, k3⟩ := doT_s (S := S) (now := p.1) hs.ts hd
  exact ⟨⟨ht, h1, hp.len⟩, ⟨by show (doT S p.1 s.1 p.2).map _ = _; rw [k2, h2, List.append_nil]; exact hs.keys, k1, doT_ok hs.ok h1⟩, k3⟩
theorem log_ok {S : Cfg} {names : List Str} (hf : sg S "fence" ≠ "yes") : ∀ {es : Log} {s : QSt}, StG names s → (∀ p ∈ es, EntG names p) → SSo es → (∀ p ∈ es, s.2 ≤ p.1) → LogOk S s es ∧ StG names (runL S es s)
  | [], s, h, _, _, _ => ⟨trivial, h⟩
  | p :: es, s, h, k, so, ht => by
    obtain ⟨a1, a2⟩ := List.pairwise_cons.mp so
    obtain ⟨b1, b2, _⟩ := ent_ok hf h (k p (by simp)) (ht p (by simp))
    obtain ⟨c1, c2⟩ := log_ok hf (es := es) b2 (fun q hq => k q (by simp [hq])) a2 fun q hq => Int.le_of_lt (a1 q hq)
    exact ⟨⟨b1, c1⟩, c2⟩
theorem at_ok {S : Cfg} {names : List Str} {now : Int} (hf : sg S "fence" ≠ "yes") : ∀ {es : Log} {s : QSt}, StG names s → (∀ p ∈ es, EntG names p) → SSo es → (∀ p ∈ es, s.2 ≤ p.1) → AtOk S now s es ∧ StG names (es.foldl (fun s p => atM1 S now s p) s)
  | [], s, h, _, _, _ => ⟨trivial, h⟩
  | p :: es, s, h, k, so, ht => by
    obtain ⟨a1, a2⟩ := List.pairwise_cons.mp so
    obtain ⟨b1, b2, _⟩ := ent_ok hf h (k p (by simp)) (ht p (by simp))
    have hst : StG names (atM1 S now s p) ∧ ∀ q ∈ es, (atM1 S now s p).2 ≤ q.1 := by
      unfold atM1
      by_cases z : p.1 ≤ now
      · rw [if_pos z]
        exact ⟨b2, fun q hq => Int.le_of_lt (a1 q hq)⟩
      · rw [if_neg z]
        exact ⟨h, fun q hq => ht q (by simp [hq])⟩
    obtain ⟨c1, c2⟩ := at_ok (now := now) hf (es := es) hst.1 (fun q hq => k q (by simp [hq])) a2 hst.2
    exact ⟨⟨fun _ => b1, c1⟩, c2⟩
/-! ### the puts -/
structure NamesOk (ns : List Str) : Prop where
  four : ns.length = 4
  nd : ns.Nodup
  ok : ∀ n ∈ ns, PyData.strOk n = true
theorem NamesOk.ex {ns : List Str} (h : NamesOk ns) : ∃ a b c d : Str, ns = [a, b, c, d] := by
  match ns, h.four with
  | [a, b, c, d], _ => exact ⟨a, b, c, d, rfl⟩
def putsOk (ns : List Str) (puts : List Deed) : Prop := ∃ (a b c d k1 k2 k3 : Str) (w1 w2 w3 d1 d2 d3 : Int), ns = [a, b, c, d] ∧ (PyData.strOk k1 = true ∧ PyData.strOk k2 = true ∧ PyData.strOk k3 = true) ∧ puts = [.put a k1 w1 d1 none, .put b k2 w2 d2 none, .put c k3 w3 d3 none, .put d a 0 0 (some a)]
theorem puts_ok {S : Cfg} {ns : List Str} {puts : List Deed} (hn : NamesOk ns) (hp : putsOk ns puts) : EntOk S ([], 0) (0, puts) ∧ StG ns (runE S ([], 0) (0, puts)) ∧ OkD 3 (.lst (doR S 0 [] puts)) := by
  obtain ⟨a, b, c, d, k1, k2, k3, w1, w2, w3, d1, d2, d3, rfl, _, rfl⟩ := hp
  have nd := hn.nd
  simp only [List.nodup_cons, List.mem_cons, List.not_mem_nil, or_false, not_or, List.nodup_nil, not_false_eq_true, and_true] at nd
  obtain ⟨⟨nab, nac, nad⟩, ⟨nbc, nbd⟩, ncd⟩ := nd
  have l1 : ∀ (x y : Str) (r : QRow), x ≠ y → ∀ t : Tab, ((y, r) :: t).lookup x = t.lookup x := fun x y r h t => by
    rw [List.lookup_cons, beq_eq_false_iff_ne.mpr h]
  have l2 : ∀ (x : Str) (r : QRow) (t : Tab), ((x, r) :: t).lookup x = some r := fun x r t => by
    rw [List.lookup_cons, beq_self_eq_true]
  have hd : DeedsOk S 0 (settledT S 0 []) [.put a k1 w1 d1 none, .put b k2 w2 d2 none, .put c k3 w3 d3 none, .put d a 0 0 (some a)] := by
    refine ⟨⟨rfl, by show 0 < 200; decide, fun o h => by cases h⟩, ⟨?_, by show 1 < 200; decide, fun o h => by cases h⟩, ⟨?_, by show 2 < 200; decide, fun o h => by cases h⟩, ⟨?_, by show 3 < 200; decide, fun o h => ?_⟩, trivial⟩
    · show List.lookup b [(a, _)] = none
      rw [l1 b a _ (fun z => nab z.symm)] <;> rfl
    · show List.lookup c [(a, _), (b, _)] = none
      rw [l1 c a _ (fun z => nac z.symm), l1 c b _ (fun z => nbc z.symm)] <;> rfl
    · show List.lookup d [(a, _), (b, _), (c, _)] = none
      rw [l1 d a _ (fun z => nad z.symm), l1 d b _ (fun z => nbd z.symm), l1 d c _ (fun z => ncd z.symm)] <;> rfl
    · cases h
      show (List.lookup a [(a, _), (b, _), (c, _)]).isSome = true
      rw [l2] <;> rfl
  have hS : ∀ x ∈ [Deed.put a k1 w1 d1 none, .put b k2 w2 d2 none, .put c k3 w3 d3 none, .put d a 0 0 (some a)], DeedS x := fun x hx => by
    simp only [List.mem_cons, List.not_mem_nil, or_false] at hx
    rcases hx with e | e | e | e <;> rw [e]
    · exact hn.ok a (by simp)
    · exact hn.ok b (by simp)
    · exact hn.ok c (by simp)
    · exact hn.ok d (by simp)
  obtain ⟨m1, m2, m3⟩ := doT_s (S := S) (now := 0) TabS.nil hS
  exact ⟨⟨Int.le_refl _, hd, by show 4 ≤ 1000; decide⟩, ⟨m2, m1, doT_ok TabOk.nil hd⟩, m3⟩
/-- a whole log: the puts, then entries in order -/
structure WholeG (S : Cfg) (ns : List Str) (puts : List Deed) (es : Log) : Prop where
  fence : sg S "fence" ≠ "yes"
  names : NamesOk ns
  pk : putsOk ns puts
  ents : ∀ p ∈ es, EntG ns p
  so : SSo ((0, puts) :: es)
theorem WholeG.pos {S : Cfg} {ns : List Str} {puts : List Deed} {es : Log} (h : WholeG S ns puts es) : ∀ p ∈ es, 0 < p.1 := fun p hp => (List.pairwise_cons.mp h.so).1 p hp
theorem WholeG.log {S : Cfg} {ns : List Str} {puts : List Deed} {es : Log} (h : WholeG S ns puts es) : LogOk S ([], 0) ((0, puts) :: es) ∧ StG ns (runL S ((0, puts) :: es) ([], 0)) := by
  obtain ⟨h1, h2, _⟩ := puts_ok (S := S) h.names h.pk
  obtain ⟨k1, k2⟩ := log_ok h.fence h2 h.ents (List.pairwise_cons.mp h.so).2 fun p hp => Int.le_of_lt (h.pos p hp)
  exact ⟨⟨h1, k1⟩, k2⟩
theorem WholeG.at {S : Cfg} {ns : List Str} {puts : List Deed} {es : Log} (h : WholeG S ns puts es) {now : Int} (hn : 0 ≤ now) : AtOk S now ([], 0) ((0, puts) :: es) ∧ TabS (queueAtM S ((0, puts) :: es) now) ∧ TabOk (queueAtM S ((0, puts) :: es) now) := by
  obtain ⟨h1, h2, _⟩ := puts_ok (S := S) h.names h.pk
  have e0 : atM1 S now ([], 0) (0, puts) = runE S ([], 0) (0, puts) := by unfold atM1; rw [if_pos hn]
  obtain ⟨k1, k2⟩ := at_ok (now := now) h.fence h2 h.ents (List.pairwise_cons.mp h.so).2 fun p hp => Int.le_of_lt (h.pos p hp)
  refine ⟨⟨fun _ => h1, by rw [e0]; exact k1⟩, ?_⟩
  unfold queueAtM
  rw [List.foldl_cons, e0]
  exact ⟨(doT_s (S := S) (now := now) k2.ts (fun d hd => by cases hd)).1, doT_ok k2.ok trivial⟩
theorem WholeG.sub {S : Cfg} {ns : List Str} {puts : List Deed} {es fs : Log} (h : WholeG S ns puts es) (so : SSo fs) (hs : ∀ p ∈ fs, p ∈ es) : WholeG S ns puts fs :=
  ⟨h.fence, h.names, h.pk, fun p hp => h.ents p (hs p hp), List.pairwise_cons.mpr ⟨fun p hp => h.pos p (hs p hp), so⟩⟩
end RQ
set_option Elab.async false
set_option linter.all false
set_option maxRecDepth 100000
set_option maxHeartbeats 4000000
namespace RQ
open PySem PySem.Spec PyProof.Rows L2 Dx
/-! ### what _law_lines draws -/
def vsD (vs : Cfg) : List (Str × D) := vs.map fun p => (p.1, D.str p.2)
theorem vsD_app (vs ws : Cfg) : vsD (vs ++ ws) = vsD vs ++ vsD ws := by unfold vsD; rw [List.map_append]
theorem vsD_keys (vs : Cfg) : (vsD vs).map (·.1) = vs.map (·.1) := by unfold vsD; rw [List.map_map]; rfl
theorem put_new {vs : Cfg} {k x : Str} (h : k ∉ vs.map (·.1)) : putT (vsD vs) k (.str x) = vsD (vs ++ [(k, x)]) := by
  rw [putT_fresh (by rw [vsD_keys]; exact h), vsD_app] <;> rfl
def menuOkB (m : Str × Str) : Bool := match valuesL.lookup m.1 with
  | some vs => (parts m.2).all (fun x => decide (x ∈ vs)) && decide (m.1 ≠ "plan") && decide (m.1 ≠ "pause")
  | none => false
theorem menus_ok : ∀ m ∈ menusL, menuOkB m = true := by decide +kernel
theorem menu_val {m : Str × Str} (h : menuOkB m = true) {x : Str} (hx : x ∈ parts m.2) : ValOk m.1 x := by
  unfold menuOkB at h
  split at h
  · rename_i vs e
    obtain ⟨h, h3⟩ := Bool.and_eq_true_iff.mp h
    obtain ⟨h1, h2⟩ := Bool.and_eq_true_iff.mp h
    exact .other e (of_decide_eq_true h2) (of_decide_eq_true h3) (of_decide_eq_true (List.all_eq_true.mp h1 x hx))
  · cases h
theorem menus_fold {cells : Cells} {near : Int} : ∀ (l : List (Str × Str)) (st : LSt) (vs : Cfg), BagOk cells st.1 → st.2 = vsD vs → (vs.map (·.1) ++ l.map (·.1)).Nodup → (∀ m ∈ l, menuOkB m = true ∧ 0 < (parts m.2).length) →
    ∃ ws : Cfg, BagOk cells (l.foldl (fun st m => menuF cells near m st) st).1 ∧ (l.foldl (fun st m => menuF cells near m st) st).2 = vsD (vs ++ ws) ∧ ws.map (·.1) = l.map (·.1) ∧ ∀ p ∈ ws, ValOk p.1 p.2
  | [], st, vs, h, e, _, _ => ⟨[], h, by rw [List.append_nil]; exact e, rfl, fun p hp => by cases hp⟩
  | m :: l, st, vs, h, e, nd, hm => by
    obtain ⟨hm1, hm2⟩ := hm m (by simp)
    have hk : m.1 ∉ vs.map (·.1) := fun z => (List.nodup_append.mp nd).2.2 _ z _ (by simp) rfl
    obtain ⟨i1, i2⟩ := menuI_ok (near := near) h hm2
    have hx : menuX cells near m.2 st.1 ∈ parts m.2 := by
      have hlt : (menuI cells near m.2 st.1).toNat < (parts m.2).length := by omega
      unfold menuX
      rw [List.getD_eq_getElem?_getD, List.getElem?_eq_getElem hlt]
      exact List.getElem_mem _
    obtain ⟨ws, w1, w2, w3, w4⟩ := menus_fold l (menuF cells near m st) (vs ++ [(m.1, menuX cells near m.2 st.1)]) (menuB_ok h hm2) (by show putT st.2 _ _ = _; rw [e, put_new hk]) (by
      rw [List.map_append, List.append_assoc]
      exact nd) fun k hk => hm k (by simp [hk])
    refine ⟨(m.1, menuX cells near m.2 st.1) :: ws, w1, by rw [List.append_assoc] at w2; exact w2, by rw [List.map_cons, List.map_cons, w3], fun p hp => ?_⟩
    rcases List.mem_cons.mp hp with z | z
    · rw [z]; exact menu_val hm1 hx
    · exact w4 p z
/-! the drawn plans -/
theorem tl_join0 : ∀ ps : List Str, TL.tl (Str.join "" ps) = (ps.map TL.tl).flatten
  | [] => rfl
  | [p] => by
    show TL.tl p = (TL.tl p :: []).flatten
    simp
  | p :: q :: r => by
    show TL.tl (p ++ "" ++ Str.join "" (q :: r)) = TL.tl p ++ ((q :: r).map TL.tl).flatten
    rw [TL.tl_append, TL.tl_append, tl_join0 (q :: r)]
    have e : TL.tl "" = [] := rfl
    rw [e, List.append_nil]
theorem join_cons {y p : Str} {r : List Str} (h : r ≠ []) : TL.tl (Str.join y (p :: r)) = TL.tl p ++ (TL.tl y ++ TL.tl (Str.join y r)) := by
  cases r with
  | nil => exact absurd rfl h
  | cons q r =>
    show TL.tl (p ++ y ++ Str.join y (q :: r)) = _
    rw [TL.tl_append, TL.tl_append, List.append_assoc]
theorem join_snoc {y p : Str} : ∀ {r : List Str}, r ≠ [] → TL.tl (Str.join y (r ++ [p])) = TL.tl (Str.join y r) ++ (TL.tl y ++ TL.tl p)
  | [], h => absurd rfl h
  | [q], _ => by
    show TL.tl (q ++ y ++ p) = _
    rw [TL.tl_append, TL.tl_append, List.append_assoc] <;> rfl
  | q :: q2 :: r, _ => by
    have ih := join_snoc (y := y) (p := p) (r := q2 :: r) (by simp)
    rw [List.cons_append, join_cons (r := q2 :: r ++ [p]) (by simp), ih, join_cons (p := q) (r := q2 :: r) (by simp)]
    simp only [List.append_assoc]
theorem mem_join {y : Str} {c : Nat} : ∀ {ps : List Str}, c ∈ TL.tl (Str.join y ps) → c ∈ TL.tl y ∨ ∃ p ∈ ps, c ∈ TL.tl p
  | [], h => by cases h
  | [p], h => .inr ⟨p, by simp, h⟩
  | p :: q :: r, h => by
    rw [join_cons (by simp)] at h
    rcases List.mem_append.mp h with z | z
    · exact .inr ⟨p, by simp, z⟩
    · rcases List.mem_append.mp z with z | z
      · exact .inl z
      · rcases mem_join z with w | ⟨p2, h2, w⟩
        · exact .inl w
        · exact .inr ⟨p2, by simp [List.mem_cons.mp h2], w⟩
/-- the words of the plan by transactions -/
def grp : List Str → List (Bool × Str) → List (List Str)
  | cur, [] => [cur]
  | cur, (true, w) :: r => grp (cur ++ [w]) r
  | cur, (false, w) :: r => cur :: grp [w] r
def sepX (b : Bool) : Str := if b = true then "+" else " "
theorem grp_ne : ∀ (cur : List Str) (ps : List (Bool × Str)), grp cur ps ≠ []
  | _, [] => by simp [grp]
  | cur, (true, w) :: r => grp_ne _ r
  | cur, (false, w) :: r => by simp [grp]
theorem grp_text : ∀ (ps : List (Bool × Str)) (cur : List Str), cur ≠ [] → TL.tl (Str.join " " ((grp cur ps).map (Str.join "+"))) = TL.tl (Str.join "+" cur) ++ (ps.map fun p => TL.tl (sepX p.1 ++ p.2)).flatten
  | [], cur, _ => by
    show TL.tl (Str.join "+" cur) = TL.tl (Str.join "+" cur) ++ []
    rw [List.append_nil]
  | (true, w) :: r, cur, h => by
    have ih := grp_text r (cur ++ [w]) (by simp)
    show TL.tl (Str.join " " ((grp (cur ++ [w]) r).map (Str.join "+"))) = TL.tl (Str.join "+" cur) ++ (TL.tl (("+" : Str) ++ w) ++ (r.map fun p => TL.tl (sepX p.1 ++ p.2)).flatten)
    rw [ih, join_snoc h, TL.tl_append]
    simp only [List.append_assoc]
  | (false, w) :: r, cur, h => by
    have ih := grp_text r [w] (by simp)
    show TL.tl (Str.join " " (Str.join "+" cur :: (grp [w] r).map (Str.join "+"))) = TL.tl (Str.join "+" cur) ++ (TL.tl ((" " : Str) ++ w) ++ (r.map fun p => TL.tl (sepX p.1 ++ p.2)).flatten)
    rw [join_cons (by simp [grp_ne]), ih, TL.tl_append]
    show _ ++ (TL.tl " " ++ (TL.tl w ++ _)) = _
    simp only [List.append_assoc]
theorem grp_flat : ∀ (ps : List (Bool × Str)) (cur : List Str), (grp cur ps).flatten = cur ++ ps.map (·.2)
  | [], cur => by simp [grp]
  | (true, w) :: r, cur => by
    show (grp (cur ++ [w]) r).flatten = _
    rw [grp_flat r, List.append_assoc] <;> rfl
  | (false, w) :: r, cur => by
    show cur ++ (grp [w] r).flatten = _
    rw [grp_flat r] <;> rfl
theorem grp_all : ∀ (ps : List (Bool × Str)) (cur : List Str), cur ≠ [] → ∀ g ∈ grp cur ps, g ≠ []
  | [], cur, h, g, hg => by
    rw [List.mem_singleton.mp hg]; exact h
  | (true, w) :: r, cur, h, g, hg => grp_all r (cur ++ [w]) (by simp) g hg
  | (false, w) :: r, cur, h, g, hg => by
    rcases List.mem_cons.mp hg with z | z
    · rw [z]; exact h
    · exact grp_all r [w] (by simp) g z
theorem grp_len : ∀ (ps : List (Bool × Str)) (cur : List Str), (grp cur ps).length ≤ 1 + ps.length ∧ 1 ≤ (grp cur ps).length
  | [], cur => ⟨Nat.le_refl _, Nat.le_refl _⟩
  | (true, w) :: r, cur => by
    obtain ⟨h1, h2⟩ := grp_len r (cur ++ [w])
    show (grp (cur ++ [w]) r).length ≤ 1 + (r.length + 1) ∧ _
    exact ⟨by omega, h2⟩
  | (false, w) :: r, cur => by
    obtain ⟨h1, h2⟩ := grp_len r [w]
    show (grp [w] r).length + 1 ≤ 1 + (r.length + 1) ∧ 1 ≤ (grp [w] r).length + 1
    omega
theorem word_signs : ∀ x ∈ ("take" : Str) :: wordsL, 32 ∉ TL.tl x ∧ 43 ∉ TL.tl x := by decide +kernel
theorem parts_of {gs : List (List Str)} (h : gs ≠ []) (hg : ∀ g ∈ gs, g ≠ [] ∧ ∀ w ∈ g, w ∈ ("take" : Str) :: wordsL) {x : Str} (e : TL.tl x = TL.tl (Str.join " " (gs.map (Str.join "+")))) : partsOf x = gs ∧ Txt.split x " " = gs.map (Str.join "+") := by
  have ex : x = Str.join " " (gs.map (Str.join "+")) := TL.ext_tl e
  have e1 : Txt.split x " " = gs.map (Str.join "+") := by
    rw [ex, ← TL.join_eq]
    refine TL.split_join (s := 32) (S := []) rfl (by decide +kernel) (by simpa using h) fun p hp z => ?_
    obtain ⟨g, hg', rfl⟩ := List.mem_map.mp hp
    rcases mem_join z with z | ⟨w, hw, z⟩
    · exact absurd z (by decide +kernel)
    · exact (word_signs w ((hg g hg').2 w hw)).1 z
  refine ⟨?_, e1⟩
  unfold partsOf
  rw [e1, List.map_map]
  have key : ∀ g ∈ gs, ((fun p => Txt.split p "+") ∘ Str.join "+") g = g := fun g hg' => by
    show Txt.split (Str.join "+" g) "+" = g
    rw [← TL.join_eq]
    exact TL.split_join (s := 43) (S := []) rfl (by decide +kernel) (hg g hg').1 fun p hp => (word_signs p ((hg g hg').2 p hp)).2
  rw [List.map_congr_left key, List.map_id']
/-- the signs between the words -/
def sepsOf (cells : Cells) : List Str → Bag → List (Bool × Str)
  | [], _ => []
  | x :: xs, s => (decide (sepOf cells s = "+"), x) :: sepsOf cells xs (drawM cells s 3).2
theorem sepX_of {cells : Cells} {s : Bag} (h : BagOk cells s) : sepX (decide (sepOf cells s = "+")) = sepOf cells s := by
  have hm := sepOf_mem h
  have : sepOf cells s = " " ∨ sepOf cells s = "+" := by
    simp only [sepsL, List.mem_cons, List.not_mem_nil, or_false] at hm
    rcases hm with e | e | e
    · exact .inl e
    · exact .inl e
    · exact .inr e
  rcases this with e | e
  · rw [e]; decide +kernel
  · rw [e]; decide +kernel
theorem planPs_seps {cells : Cells} : ∀ (xs : List Str) (s : Bag), BagOk cells s → (planPs cells xs s).map TL.tl = (sepsOf cells xs s).map (fun p => TL.tl (sepX p.1 ++ p.2)) ∧ (sepsOf cells xs s).map (·.2) = xs
  | [], _, _ => ⟨rfl, rfl⟩
  | x :: xs, s, h => by
    obtain ⟨h1, h2⟩ := planPs_seps xs _ (drawM_ok (many := 3) h (by decide)).1
    refine ⟨?_, congrArg (x :: ·) h2⟩
    show TL.tl (sepOf cells s ++ x) :: (planPs cells xs (drawM cells s 3).2).map TL.tl = TL.tl (sepX (decide (sepOf cells s = "+")) ++ x) :: _
    rw [sepX_of h, h1]
theorem insF_perm {cells : Cells} {x : Str} {st : TSt} : (insF cells x st).2.Perm (x :: st.2) := by
  show (st.2.take (drawM cells st.1 ((st.2.length : Int) + 1)).1.toNat ++ [x] ++ st.2.drop (drawM cells st.1 ((st.2.length : Int) + 1)).1.toNat).Perm _
  rw [List.append_assoc]
  have h := List.perm_middle (a := x) (l₁ := st.2.take (drawM cells st.1 ((st.2.length : Int) + 1)).1.toNat) (l₂ := st.2.drop (drawM cells st.1 ((st.2.length : Int) + 1)).1.toNat)
  rw [List.take_append_drop] at h
  exact h
theorem ins_perm {cells : Cells} : ∀ (xs : List Str) (st : TSt), (xs.foldl (fun st x => insF cells x st) st).2.Perm (xs ++ st.2)
  | [], st => List.Perm.refl _
  | x :: xs, st => (ins_perm xs (insF cells x st)).trans ((insF_perm.append_left xs).trans List.perm_middle)
theorem count_words {a b : Nat} (ha : a ≤ 1) (hb : b ≤ 1) : ([("effect" : Str), "finish"] ++ List.replicate a ("check" : Str) ++ List.replicate b ("follow" : Str)).count ("effect" : Str) = 1 ∧ ([("effect" : Str), "finish"] ++ List.replicate a ("check" : Str) ++ List.replicate b ("follow" : Str)).count ("finish" : Str) = 1 ∧
    ([("effect" : Str), "finish"] ++ List.replicate a ("check" : Str) ++ List.replicate b ("follow" : Str)).count ("check" : Str) < 2 ∧ ([("effect" : Str), "finish"] ++ List.replicate a ("check" : Str) ++ List.replicate b ("follow" : Str)).count ("follow" : Str) < 2 := by
  have h1 : a = 0 ∨ a = 1 := by omega
  have h2 : b = 0 ∨ b = 1 := by omega
  rcases h1 with e | e <;> rcases h2 with f | f <;> rw [e, f] <;> decide +kernel
theorem planX_ok {cells : Cells} {s : Bag} (h : BagOk cells s) : TextOk (planX cells (turnedM cells s)) := by
  obtain ⟨w1, w2, w3, w4⟩ := wordsM_ok h
  have tok := turnedM_ok h
  have hperm : (turnedM cells s).2.Perm (wordsM cells s) := by
    have := ins_perm (cells := cells) (wordsM cells s) (wordsB cells s, [])
    rw [List.append_nil] at this
    exact this
  obtain ⟨d0, d1, d2⟩ := drawM_ok (many := 2) h (by decide)
  have hcnt := count_words (a := (drawM cells s 2).1.toNat) (b := if (drawM cells (drawM cells s 2).2 4).1 = 0 then 1 else 0) (by omega) (by split <;> omega)
  generalize turnedM cells s = tu at *
  obtain ⟨b, xs⟩ := tu
  cases xs with
  | nil =>
    have := hperm.length_eq
    simp at this
    omega
  | cons x0 xs =>
    obtain ⟨q1, q2⟩ := planPs_seps xs b tok.bag
    have hx0 : x0 ∈ wordsL := tok.mem x0 (by simp)
    have hxs : ∀ x ∈ xs, x ∈ wordsL := fun x hx => tok.mem x (by simp [hx])
    have hlen : xs.length + 1 ≤ 4 := by have := tok.len; have : (x0 :: xs).length = (wordsM cells s).length := this; simp at this; omega
    have hsl : (sepsOf cells xs b).length = xs.length := by rw [← List.length_map (f := (·.2)), q2]
    have hmem : ∀ g ∈ grp [x0] (sepsOf cells xs b), ∀ w ∈ g, w ∈ wordsL := fun g hg w hw => by
      have : w ∈ (grp [x0] (sepsOf cells xs b)).flatten := List.mem_flatten.mpr ⟨g, hg, hw⟩
      rw [grp_flat, q2] at this
      rcases List.mem_append.mp this with z | z
      · rw [List.mem_singleton.mp z]; exact hx0
      · exact hxs w z
    obtain ⟨gl1, gl2⟩ := grp_len (sepsOf cells xs b) [x0]
    have ht : TL.tl (planX cells (b, x0 :: xs)) = TL.tl (Str.join " " (([("take" : Str)] :: grp [x0] (sepsOf cells xs b)).map (Str.join "+"))) := by
      have e1 : planX cells (b, x0 :: xs) = ("take " : Str) ++ x0 ++ Txt.join "" (planPs cells xs b) := rfl
      rw [e1, List.map_cons, join_cons (by simp [grp_ne]), grp_text _ _ (by simp), TL.tl_append, TL.tl_append, TL.join_eq, tl_join0, q1]
      show (TL.tl "take " ++ TL.tl x0) ++ _ = TL.tl "take" ++ (TL.tl " " ++ (TL.tl x0 ++ _))
      have e2 : TL.tl "take " = TL.tl "take" ++ TL.tl " " := by decide +kernel
      rw [e2]
      simp only [List.append_assoc]
    obtain ⟨p1, p2⟩ := parts_of (by simp) (fun g hg => by
      rcases List.mem_cons.mp hg with z | z
      · rw [z]; exact ⟨by simp, fun w hw => by rw [List.mem_singleton.mp hw]; simp⟩
      · exact ⟨grp_all _ _ (by simp) g z, fun w hw => List.mem_cons_of_mem _ (hmem g z w hw)⟩) ht
    have hflat : (([("take" : Str)] :: grp [x0] (sepsOf cells xs b)).drop 1).flatten = x0 :: xs := by
      show (grp [x0] (sepsOf cells xs b)).flatten = _
      rw [grp_flat, q2] <;> rfl
    have hcount : ∀ w : Str, (x0 :: xs).count w = (wordsM cells s).count w := fun w => hperm.count_eq w
    have hgl : ∀ g ∈ grp [x0] (sepsOf cells xs b), g.length ≤ 4 := fun g hg => by
      have h1 : g.length ≤ (grp [x0] (sepsOf cells xs b)).flatten.length := (List.sublist_flatten_of_mem hg).length_le
      rw [grp_flat, q2] at h1
      simp at h1
      omega
    have hjl : ∀ g : List Str, (∀ w ∈ g, w ∈ wordsL) → g.length ≤ 4 → (Str.join "+" g).length ≤ 40 := by
      have key : ∀ g : List Str, (∀ w ∈ g, w ∈ wordsL) → (Str.join "+" g).length ≤ 7 * g.length := by
        intro g
        induction g with
        | nil => exact fun _ => Nat.le_refl _
        | cons w g ih =>
          intro hw
          have h1 := ih fun y hy => hw y (by simp [hy])
          have h2 := words_len w (hw w (by simp))
          cases g with
          | nil => show w.length ≤ 7 * 1; omega
          | cons y g =>
            show (w ++ "+" ++ Str.join "+" (y :: g)).length ≤ 7 * ((y :: g).length + 1)
            rw [Str.length_append, Str.length_append]
            have e : ("+" : Str).length = 1 := rfl
            omega
      intro g h1 h2
      have := key g h1
      omega
    obtain ⟨c1, c2, c3, c4⟩ := hcnt
    have hwd : wordsM cells s = [("effect" : Str), "finish"] ++ List.replicate (drawM cells s 2).1.toNat ("check" : Str) ++ List.replicate (if (drawM cells (drawM cells s 2).2 4).1 = 0 then 1 else 0) ("follow" : Str) := rfl
    rw [← hwd] at c1 c2 c3 c4
    refine ⟨?_, ?_, fun p hp => ?_⟩
    · rw [p1]
      refine ⟨rfl, by show 2 ≤ (grp [x0] (sepsOf cells xs b)).length + 1; omega, by show (grp [x0] (sepsOf cells xs b)).length + 1 ≤ 5; omega, fun ws hw => ?_, ?_, ?_, ?_, ?_, ?_⟩
      · exact ⟨grp_all _ _ (by simp) ws hw, hmem ws hw, Nat.le_trans (hgl ws hw) (by decide)⟩
      · rw [hflat, hcount]; exact c1
      · rw [hflat, hcount]; exact c2
      · rw [hflat, hcount]; exact c3
      · rw [hflat, hcount]; exact c4
      · rw [hflat]; show xs.length + 1 ≤ 1000; omega
    · have hl0 := words_len x0 hx0
      obtain ⟨pl1, pl2⟩ := planPs_len xs b tok.bag hxs
      have e1 : planX cells (b, x0 :: xs) = ("take " : Str) ++ x0 ++ Txt.join "" (planPs cells xs b) := rfl
      have e3 : (Txt.join "" (planPs cells xs b)).length = ((planPs cells xs b).map (·.length)).sum := by rw [TL.join_eq]; exact join_len _
      rw [e1, Str.length_append, Str.length_append, e3]
      show 5 + _ + _ ≤ 1000
      omega
    · rw [p2] at hp
      obtain ⟨g, hg, rfl⟩ := List.mem_map.mp hp
      rcases List.mem_cons.mp hg with z | z
      · rw [z]; decide +kernel
      · exact Nat.le_trans (hjl g (hmem g z) (hgl g z)) (by decide)
def keysL : List Str := ["order", "skip", "hold", "margin", "slow", "fence", "count", "tries", "dead", "once", "pause", "plan"]
theorem linesM_vs {cells : Cells} {s : Bag} (h : BagOk cells s) : BagOk cells (linesM cells s).1 ∧ ∃ vs : Cfg, (linesM cells s).2 = vsD vs ∧ vs.map (·.1) = keysL ∧ ∀ p ∈ vs, ValOk p.1 p.2 := by
  obtain ⟨h1, _, _⟩ := drawM_ok (many := 3) h (by decide)
  obtain ⟨ws, k1, k2, k3, k4⟩ := menus_fold (near := (drawM cells s 3).1) menusL ((drawM cells s 3).2, []) [] h1 rfl (by decide +kernel) fun m hm => ⟨menus_ok m hm, (menus_small m hm).1⟩
  rw [List.nil_append] at k2
  generalize hst : menusL.foldl (fun st m => menuF cells (drawM cells s 3).1 m st) ((drawM cells s 3).2, []) = st1 at *
  have okp : BagOk cells (pauseBg cells st1.1) := draws_ok (by decide) (drawM_ok (many := 2) k1 (by decide)).1
  have tok := turnedM_ok okp
  have hL : linesM cells s = (planB cells (turnedM cells (pauseBg cells st1.1)), putT (putT st1.2 "pause" (.str (pauseX cells st1.1))) "plan" (.str (planX cells (turnedM cells (pauseBg cells st1.1))))) := by
    unfold linesM
    simp only [hst]
  have n1 : ("pause" : Str) ∉ ws.map (·.1) := by rw [k3]; decide +kernel
  have n2 : ("plan" : Str) ∉ (ws ++ [(("pause" : Str), pauseX cells st1.1)]).map (·.1) := by
    rw [List.map_append, k3]
    show ("plan" : Str) ∉ menusL.map (·.1) ++ [("pause" : Str)]
    decide +kernel
  rw [hL]
  refine ⟨draws_ok (by decide) tok.bag, (ws ++ [(("pause" : Str), pauseX cells st1.1)]) ++ [(("plan" : Str), planX cells (turnedM cells (pauseBg cells st1.1)))], by rw [k2, put_new n1, put_new n2], by rw [List.map_append, List.map_append, k3] <;> rfl, fun p hp => ?_⟩
  rcases List.mem_append.mp hp with z | z
  · rcases List.mem_append.mp z with z | z
    · exact k4 p z
    · rw [List.mem_singleton.mp z]; exact .pause (pauseX_ok k1).1
  · rw [List.mem_singleton.mp z]; exact .plan (planX_ok okp)
end RQ
set_option Elab.async false
set_option linter.all false
set_option maxRecDepth 100000
set_option maxHeartbeats 4000000
namespace RQ
open PySem PySem.Spec PyProof.Rows L2 Dx
/-! ### the setting that is made of the lines -/
def noFence (vs : Cfg) : Cfg := vs.map fun p => if p.1 = ("fence" : Str) then (p.1, ("no" : Str)) else p
theorem noFence_keys (vs : Cfg) : (noFence vs).map (·.1) = vs.map (·.1) := by
  unfold noFence
  rw [List.map_map]
  refine List.map_congr_left fun p _ => ?_
  show (if p.1 = ("fence" : Str) then (p.1, ("no" : Str)) else p).1 = p.1
  split <;> rfl
theorem lookup_of_keyG {α : Type} {k : Str} : ∀ {l : List (Str × α)}, k ∈ l.map (·.1) → (l.lookup k).isSome = true
  | [], h => by cases h
  | e :: l, h => by
    rw [List.lookup_cons]
    by_cases z : k = e.1
    · rw [z, beq_self_eq_true] <;> rfl
    · rw [beq_eq_false_iff_ne.mpr z]
      exact lookup_of_keyG ((List.mem_cons.mp h).resolve_left z)
theorem put_old {vs : Cfg} {k x : Str} (h : k ∈ vs.map (·.1)) : putT (vsD vs) k (.str x) = vsD (vs.map fun p => if p.1 = k then (p.1, x) else p) := by
  have hm : k ∈ (vsD vs).map (·.1) := by rw [vsD_keys]; exact h
  have hs : ((vsD vs).lookup k).isSome = true := lookup_of_keyG hm
  unfold putT
  rw [if_pos hs]
  unfold vsD
  rw [List.map_map, List.map_map]
  refine List.map_congr_left fun p _ => ?_
  show (if p.1 = k then (p.1, D.str x) else (p.1, D.str p.2)) = ((if p.1 = k then (p.1, x) else p).1, D.str (if p.1 = k then (p.1, x) else p).2)
  by_cases z : p.1 = k
  · rw [if_pos z, if_pos z]
  · rw [if_neg z, if_neg z]
theorem noFence_val {vs : Cfg} (h : ∀ p ∈ vs, ValOk p.1 p.2) : ∀ p ∈ noFence vs, ValOk p.1 p.2 := fun p hp => by
  obtain ⟨q, hq, rfl⟩ := List.mem_map.mp hp
  by_cases z : q.1 = "fence"
  · rw [if_pos z, z]
    exact .other (vs := ["yes", "no"]) (by decide +kernel) (by decide +kernel) (by decide +kernel) (by simp)
  · rw [if_neg z]
    exact h q hq
theorem noFence_no {vs : Cfg} (h : vs.map (·.1) = keysL) : (("fence" : Str), ("no" : Str)) ∈ noFence vs := by
  have : ("fence" : Str) ∈ vs.map (·.1) := by rw [h]; decide +kernel
  obtain ⟨p, hp, e⟩ := List.mem_map.mp this
  have e : p.1 = "fence" := e
  exact List.mem_map.mpr ⟨p, hp, by rw [if_pos e, e]⟩
/-! lines -/
def lineX (p : Str × Str) : Str := p.1 ++ " " ++ p.2
def lsOf (vs : Cfg) : List LTr := vs.map fun p => (lineX p, p.1, p.2)
theorem vals_len : ∀ p ∈ valuesL, p.1.length ≤ 6 ∧ ∀ x ∈ p.2, x.length ≤ 20 := by decide +kernel
theorem keys_sign : ∀ k ∈ keysL, 32 ∉ TL.tl k ∧ k.length ≤ 6 := by decide +kernel
theorem lookup_mem' {α : Type} {k : Str} {v : α} {l : List (Str × α)} (h : l.lookup k = some v) : (k, v) ∈ l := lookup_mem h
theorem ValOk.len {w x : Str} (h : ValOk w x) : x.length ≤ 1000 := by
  cases h with
  | plan h => exact h.len
  | pause h => exact of_decide_eq_true (Bool.and_eq_true_iff.mp h).1
  | other hl h1 h2 hx => exact Nat.le_trans ((vals_len _ (lookup_mem' hl)).2 x hx) (by decide)
theorem lines_ok {vs : Cfg} (hk : vs.map (·.1) = keysL) (hv : ∀ p ∈ vs, ValOk p.1 p.2) : LinesOk (lsOf vs) := by
  have hl : vs.length = 12 := by rw [← List.length_map (f := (·.1)), hk]; rfl
  refine ⟨fun l hl => ?_, ?_, by unfold lsOf; rw [List.length_map, hl]; decide⟩
  · obtain ⟨p, hp, rfl⟩ := List.mem_map.mp hl
    obtain ⟨s1, s2⟩ := keys_sign p.1 (hk ▸ List.mem_map.mpr ⟨p, hp, rfl⟩)
    have h3 := (hv p hp).len
    refine ⟨TL.partition_app (s := 32) (S := []) rfl s1, ?_, hv p hp⟩
    show (p.1 ++ " " ++ p.2).length ≤ 2000
    rw [Str.length_append, Str.length_append]
    have e : (" " : Str).length = 1 := rfl
    omega
  · unfold lsOf
    rw [List.map_map]
    show (vs.map (·.1)).Nodup
    rw [hk]
    decide +kernel
/-! the table of texts -/
def lastF (vs : Cfg) (f : Str → Str) (k : Str) : Str := vs.foldl (fun a p => if k = p.1 then p.2 else a) (f k)
theorem fold_put (ks : List Str) : ∀ (vs : Cfg) (f : Str → Str), (∀ p ∈ vs, p.1 ∈ ks) → vs.foldl (fun t p => putT t p.1 (.str p.2)) (ks.map fun k => (k, D.str (f k))) = ks.map fun k => (k, D.str (lastF vs f k))
  | [], f, _ => rfl
  | p :: vs, f, h => by
    have e0 : (ks.map fun k => (k, D.str (f k))) = vsD (ks.map fun k => (k, f k)) := by unfold vsD; rw [List.map_map]; rfl
    have e1 : putT (ks.map fun k => (k, D.str (f k))) p.1 (.str p.2) = ks.map fun k => (k, D.str (if k = p.1 then p.2 else f k)) := by
      rw [e0, put_old (by rw [List.map_map]; exact List.mem_map.mpr ⟨p.1, h p (by simp), rfl⟩)]
      unfold vsD
      rw [List.map_map, List.map_map]
      refine List.map_congr_left fun k _ => ?_
      show ((if k = p.1 then (k, p.2) else (k, f k)).1, D.str (if k = p.1 then (k, p.2) else (k, f k)).2) = (k, D.str (if k = p.1 then p.2 else f k))
      by_cases z : k = p.1
      · rw [if_pos z, if_pos z]
      · rw [if_neg z, if_neg z]
    show vs.foldl _ (putT _ p.1 (.str p.2)) = _
    rw [e1, fold_put ks vs (fun k => if k = p.1 then p.2 else f k) fun q hq => h q (by simp [hq])]
    rfl
theorem lastF_none : ∀ (vs : Cfg) (f : Str → Str) (k : Str), k ∉ vs.map (·.1) → lastF vs f k = f k
  | [], f, k, _ => rfl
  | p :: vs, f, k, h => by
    have hk : k ≠ p.1 := fun z => h (by simp [z])
    have := lastF_none vs (fun k => if k = p.1 then p.2 else f k) k fun z => h (by
      rw [List.map_cons]
      exact List.mem_cons_of_mem _ z)
    show lastF vs (fun k => if k = p.1 then p.2 else f k) k = f k
    rw [this, if_neg hk]
theorem lastF_some : ∀ (vs : Cfg) (f : Str → Str) (k x : Str), (vs.map (·.1)).Nodup → (k, x) ∈ vs → lastF vs f k = x
  | p :: vs, f, k, x, nd, h => by
    obtain ⟨n1, n2⟩ := List.nodup_cons.mp nd
    show lastF vs (fun k => if k = p.1 then p.2 else f k) k = x
    rcases List.mem_cons.mp h with z | z
    · rw [lastF_none vs _ k (by rw [show k = p.1 from congrArg (·.1) z]; exact n1)]
      rw [if_pos (congrArg (·.1) z)]
      exact (congrArg (·.2) z).symm
    · exact lastF_some vs _ k x n2 z
def dflX (k : Str) : Str := ((valuesL.lookup k).getD []).headD Str.empty
def cfgOf (vs : Cfg) : Cfg := (valuesL.map (·.1)).map fun k => (k, lastF vs dflX k)
theorem defT_is : defT = (valuesL.map (·.1)).map fun k => (k, D.str (dflX k)) := by
  unfold defT
  rw [List.map_map]
  have key : ∀ p ∈ valuesL, dflX p.1 = p.2.headD Str.empty := by decide +kernel
  refine List.map_congr_left fun p hp => ?_
  show (p.1, D.str (p.2.headD Str.empty)) = (p.1, D.str (dflX p.1))
  rw [key p hp]
theorem texts_cfg {vs : Cfg} (hk : vs.map (·.1) = keysL) : textsT (lsOf vs) = vsD (cfgOf vs) := by
  unfold textsT lsOf
  rw [List.foldl_map, defT_is]
  have key : ∀ k ∈ keysL, k ∈ valuesL.map (·.1) := by decide +kernel
  have := fold_put (valuesL.map (·.1)) vs dflX fun p hp => key _ (hk ▸ List.mem_map.mpr ⟨p, hp, rfl⟩)
  rw [this]
  unfold vsD cfgOf
  rw [List.map_map, List.map_map, List.map_map] <;> rfl
theorem cfg_nodup (vs : Cfg) : ((cfgOf vs).map (·.1)).Nodup := by
  unfold cfgOf
  rw [List.map_map]
  show ((valuesL.map (·.1)).map fun k => k).Nodup
  rw [List.map_id']
  decide +kernel
theorem cfg_get {vs : Cfg} (hk : vs.map (·.1) = keysL) {k x : Str} (h : (k, x) ∈ vs) : (cfgOf vs).lookup k = some x := by
  have hnd : (vs.map (·.1)).Nodup := by rw [hk]; decide +kernel
  have hkk : k ∈ valuesL.map (·.1) := by
    have key : ∀ k ∈ keysL, k ∈ valuesL.map (·.1) := by decide +kernel
    exact key k (hk ▸ List.mem_map.mpr ⟨_, h, rfl⟩)
  have e := lastF_some vs dflX k x hnd h
  unfold cfgOf
  have key : ∀ ks : List Str, k ∈ ks → (ks.map fun k => (k, lastF vs dflX k)).lookup k = some (lastF vs dflX k) := by
    intro ks
    induction ks with
    | nil => intro h; cases h
    | cons y ks ih =>
      intro h
      rw [List.map_cons, List.lookup_cons]
      by_cases z : k = y
      · rw [← z, beq_self_eq_true]
      · rw [beq_eq_false_iff_ne.mpr z]
        exact ih ((List.mem_cons.mp h).resolve_left z)
  rw [key _ hkk, e]
def numB (x : Str) : Bool := !Txt.isdigit x || ((PySem.intText? x).isSome && decide (x.length ≤ 640))
theorem numB_ok {x : Str} (h : numB x = true) : NumOk x := fun hd => by
  unfold numB at h
  rw [hd] at h
  obtain ⟨h1, h2⟩ := Bool.and_eq_true_iff.mp (show ((PySem.intText? x).isSome && decide (x.length ≤ 640)) = true from h)
  obtain ⟨n, e⟩ := Option.isSome_iff_exists.mp h1
  exact ⟨n, e, of_decide_eq_true h2⟩
theorem vals_num : ∀ p ∈ valuesL, ∀ x ∈ p.2, numB x = true := by decide +kernel
theorem digs_int : ∀ x ∈ digs, (PySem.intText? x).isSome = true ∧ x.length ≤ 640 := by decide +kernel
theorem ValOk.num {w x : Str} (h : ValOk w x) (h1 : w ≠ "plan") (h2 : w ≠ "pause") : NumOk x := by
  cases h with
  | plan h => exact absurd rfl h1
  | pause h => exact absurd rfl h2
  | other hl _ _ hx => exact numB_ok (vals_num _ (lookup_mem' hl) x hx)
theorem pauseB_ok {x : Str} (h : pauseB x = true) : PauseOk x := by
  obtain ⟨h1, h⟩ := Bool.and_eq_true_iff.mp h
  have key : (∀ y ∈ Txt.split x " ", y ∈ digs) ∧ Txt.split x " " ≠ [] ∧ (Txt.split x " ").length ≤ 2 := by
    split at h
    · rename_i a e
      rw [e]
      exact ⟨fun y hy => by rw [List.mem_singleton.mp hy]; exact of_decide_eq_true h, by simp, by show 1 ≤ 2; decide⟩
    · rename_i a b e
      obtain ⟨h, _⟩ := Bool.and_eq_true_iff.mp h
      obtain ⟨k1, k2⟩ := Bool.and_eq_true_iff.mp h
      rw [e]
      refine ⟨fun y hy => ?_, by simp, Nat.le_refl _⟩
      rcases List.mem_cons.mp hy with z | z
      · rw [z]; exact of_decide_eq_true k1
      · rw [List.mem_singleton.mp z]; exact of_decide_eq_true k2
    · cases h
  refine ⟨of_decide_eq_true h1, fun y hy => ?_, key.2.1, Nat.le_trans key.2.2 (by decide)⟩
  obtain ⟨a, b⟩ := digs_int y (key.1 y hy)
  obtain ⟨n, e⟩ := Option.isSome_iff_exists.mp a
  exact ⟨n, e, b⟩
theorem ValOk.pauseOk {x : Str} (h : ValOk "pause" x) : PauseOk x := by
  generalize hw : ("pause" : Str) = w at h
  cases h with
  | plan h => exact absurd hw (by decide +kernel)
  | pause h => exact pauseB_ok h
  | other hl h1 h2 hx => exact absurd hw.symm h2
theorem cfg_ok {vs : Cfg} (hk : vs.map (·.1) = keysL) (hv : ∀ p ∈ vs, ValOk p.1 p.2) : SOk (cfgOf vs) := by
  have get : ∀ k ∈ keysL, ∃ x, (cfgOf vs).lookup k = some x ∧ ValOk k x := fun k hkk => by
    rw [← hk] at hkk
    obtain ⟨p, hp, rfl⟩ := List.mem_map.mp hkk
    exact ⟨p.2, cfg_get hk hp, hv p hp⟩
  have g1 : ∀ k ∈ keysL, ∃ x, (cfgOf vs).lookup k = some x := fun k h => let ⟨x, h1, _⟩ := get k h; ⟨x, h1⟩
  have g2 : ∀ k ∈ keysL, k ≠ "plan" → k ≠ "pause" → ∃ x, (cfgOf vs).lookup k = some x ∧ NumOk x := fun k h a b => let ⟨x, h1, h2⟩ := get k h; ⟨x, h1, h2.num a b⟩
  exact ⟨g1 _ (by decide +kernel), g1 _ (by decide +kernel), g1 _ (by decide +kernel), g1 _ (by decide +kernel), g1 _ (by decide +kernel), g2 _ (by decide +kernel) (by decide +kernel) (by decide +kernel), g2 _ (by decide +kernel) (by decide +kernel) (by decide +kernel), g2 _ (by decide +kernel) (by decide +kernel) (by decide +kernel),
    let ⟨x, h1, h2⟩ := get "pause" (by decide +kernel); ⟨x, h1, h2.pauseOk⟩⟩
theorem cfg_fence {vs : Cfg} (hk : vs.map (·.1) = keysL) : sg (cfgOf (noFence vs)) "fence" ≠ "yes" := by
  rw [sg_of (cfg_get (by rw [noFence_keys]; exact hk) (noFence_no hk))]
  decide +kernel
/-- what Setting.__init__ leaves is a setting -/
theorem set_at {K : PySem.W.Frag} {H : Hp} {a t : Addr} {S : Cfg} (h1 : (seO K a t).p H) (h2 : (tabA K t (vsD S)).p H) : SetAt K H a S := by
  obtain ⟨dx, fs, e1, r1⟩ := h1
  obtain ⟨kvs, e2, r2⟩ := h2
  have ef : fs = [(("texts" : Str), V.ref t)] := by
    cases r1 with
    | cons r f tl =>
      cases tl
      rw [show _ = V.ref t from Rp.ref_inv r]
  have key : ∀ (S : Cfg) (kvs : List (Key × V)), KvR K H kvs (vsD S) → kvs = kvsS S := by
    intro S
    induction S with
    | nil => intro kvs r; cases r; rfl
    | cons p S ih =>
      intro kvs r
      cases r with
      | cons r f tl =>
        rw [ih _ tl, show _ = V.str p.2 from Rp.str_inv r]
        rfl
  rw [ef] at e1
  rw [key S kvs r2] at e2
  exact ⟨dx, t, e1, e2⟩
/-! ### names and deeds -/
theorem way0_ok : ∀ k : Fin 12, NamesOk ((wordsX.drop k.val ++ wordsX.take k.val).take 4) := fun k => by
  have h : ∀ k : Fin 12, ((wordsX.drop k.val ++ wordsX.take k.val).take 4).length = 4 ∧ ((wordsX.drop k.val ++ wordsX.take k.val).take 4).Nodup ∧ ∀ n ∈ (wordsX.drop k.val ++ wordsX.take k.val).take 4, PyData.strOk n = true := by decide +kernel
  exact ⟨(h k).1, (h k).2.1, (h k).2.2⟩
theorem way1_ok : ∀ k : Fin 26, NamesOk (way1 (k.val : Int)) := fun k => by
  have h : ∀ k : Fin 26, (way1 (k.val : Int)).length = 4 ∧ (way1 (k.val : Int)).Nodup ∧ ∀ n ∈ way1 (k.val : Int), PyData.strOk n = true := by decide +kernel
  exact ⟨(h k).1, (h k).2.1, (h k).2.2⟩
theorem strOk_iff {x : Str} : PyData.strOk x = true ↔ ∀ c ∈ TL.tl x, c < 0x110000 := by
  unfold PyData.strOk
  rw [Array.all_eq_true_iff_forall_mem]
  constructor
  · intro h c hc
    exact of_decide_eq_true (h c (Array.mem_toList_iff.mp hc))
  · intro h c hc
    exact decide_eq_true (h c (Array.mem_toList_iff.mpr hc))
theorem strOk_app {x y : Str} (h1 : PyData.strOk x = true) (h2 : PyData.strOk y = true) : PyData.strOk (x ++ y) = true := by
  rw [strOk_iff] at *
  intro c hc
  rw [TL.tl_append] at hc
  exact (List.mem_append.mp hc).elim (h1 c) (h2 c)
theorem strOk_cut {x : Str} (h : PyData.strOk x = true) (lo hi : Option Int) : PyData.strOk (cutS x lo hi) = true := by
  rw [strOk_iff] at *
  intro c hc
  have hc : c ∈ ((x.cps.toList.drop (HT.sIx x.length 0 lo)).take (HT.sIx x.length x.length hi - HT.sIx x.length 0 lo)) := hc
  exact h c (List.mem_of_mem_drop (List.mem_of_mem_take hc))
theorem strOk_letter {i : Int} (h : i < 26) : PyData.strOk (letterOf i) = true := by
  rw [strOk_iff]
  intro c hc
  have hc : c ∈ [97 + i.toNat] := hc
  rw [List.mem_singleton.mp hc]
  omega
theorem strOk_join : ∀ {ps : List Str}, (∀ p ∈ ps, PyData.strOk p = true) → PyData.strOk (Str.join "" ps) = true := fun {ps} h => by
  rw [strOk_iff]
  intro c hc
  rcases mem_join hc with z | ⟨p, hp, z⟩
  · cases z
  · exact strOk_iff.mp (h p hp) c z
theorem baseX_strOk {cells : Cells} {s : Bag} (h : BagOk cells s) : PyData.strOk (baseX cells s) = true := by
  unfold baseX
  rw [TL.join_eq]
  refine strOk_join ?_
  have key : ∀ (l : List Nat) (s : Bag), BagOk cells s → ∀ p ∈ runS (fun (_ : Nat) s => (drawM cells s 26).2) (fun _ s => letterOf (drawM cells s 26).1) l s, PyData.strOk p = true := by
    intro l
    induction l with
    | nil => intro s _ p hp; cases hp
    | cons x l ih =>
      intro s hs p hp
      obtain ⟨k1, k2, k3⟩ := drawM_ok (many := 26) hs (by decide)
      rcases List.mem_cons.mp hp with z | z
      · rw [z]; exact strOk_letter k3
      · exact ih _ k1 p z
  exact key _ _ (drawM_ok (many := 8) h (by decide)).1
theorem way2_ok {turn at_ : Int} {b : Str} (hb : PyData.strOk b = true) : NamesOk (way2 turn at_ b) := by
  have h4 : way2 turn at_ b = [cutS b none (some at_) ++ letterOf ((turn + 3 * 0) % 26) ++ cutS b (some (at_ + 1)) none, cutS b none (some at_) ++ letterOf ((turn + 3 * 1) % 26) ++ cutS b (some (at_ + 1)) none, cutS b none (some at_) ++ letterOf ((turn + 3 * 2) % 26) ++ cutS b (some (at_ + 1)) none, cutS b none (some at_) ++ letterOf ((turn + 3 * 3) % 26) ++ cutS b (some (at_ + 1)) none] := rfl
  have inj : ∀ {x y : Int}, 0 ≤ x → 0 ≤ y → cutS b none (some at_) ++ letterOf x ++ cutS b (some (at_ + 1)) none = cutS b none (some at_) ++ letterOf y ++ cutS b (some (at_ + 1)) none → x = y := fun {x y} hx hy e => by
    have e := congrArg TL.tl e
    rw [TL.tl_append, TL.tl_append, TL.tl_append, TL.tl_append, List.append_assoc, List.append_assoc] at e
    have e := List.append_cancel_left e
    have e : (97 + x.toNat) :: TL.tl (cutS b (some (at_ + 1)) none) = (97 + y.toNat) :: TL.tl (cutS b (some (at_ + 1)) none) := e
    have := (List.cons.inj e).1
    omega
  have hm : ∀ z : Int, 0 ≤ z % 26 ∧ z % 26 < 26 := fun z => ⟨Int.emod_nonneg _ (by decide), Int.emod_lt_of_pos _ (by decide)⟩
  refine ⟨rfl, ?_, fun n hn => ?_⟩
  · rw [h4]
    have d : ∀ {i j : Int}, 0 ≤ i → i < j → j < 4 → cutS b none (some at_) ++ letterOf ((turn + 3 * i) % 26) ++ cutS b (some (at_ + 1)) none ≠ cutS b none (some at_) ++ letterOf ((turn + 3 * j) % 26) ++ cutS b (some (at_ + 1)) none := fun {i j} h0 h1 h2 e => by
      have := inj (hm _).1 (hm _).1 e
      omega
    simp only [List.nodup_cons, List.mem_cons, List.not_mem_nil, or_false, not_or, List.nodup_nil, not_false_eq_true, and_true]
    exact ⟨⟨d (by decide) (by decide) (by decide), d (by decide) (by decide) (by decide), d (by decide) (by decide) (by decide)⟩, ⟨d (by decide) (by decide) (by decide), d (by decide) (by decide) (by decide)⟩, d (by decide) (by decide) (by decide)⟩
  · obtain ⟨j, hj, rfl⟩ := List.mem_map.mp hn
    exact strOk_app (strOk_app (strOk_cut hb _ _) (strOk_letter (hm _).2)) (strOk_cut hb _ _)
theorem namesM_ok {cells : Cells} {s : Bag} (h : BagOk cells s) : NamesOk (namesM cells s).1 ∧ BagOk cells (namesM cells s).2 := by
  obtain ⟨h1, a1, a2⟩ := drawM_ok (many := 4) h (by decide)
  obtain ⟨h2, b1, b2⟩ := drawM_ok (many := 26) h1 (by decide)
  obtain ⟨h3, c1, c2⟩ := drawM_ok (many := 8) h2 (by decide)
  obtain ⟨hn1, hn8, _⟩ := baseN_ok h2
  have h4 : BagOk cells (baseB cells (drawM cells (drawM cells s 4).2 26).2) := draws_ok (by decide) h3
  have hbl := baseX_len cells (drawM cells (drawM cells s 4).2 26).2
  obtain ⟨h5, d1, d2⟩ := drawM_ok (many := ((baseX cells (drawM cells (drawM cells s 4).2 26).2).length : Nat)) h4 (by omega)
  refine ⟨?_, h5⟩
  show NamesOk (namesOf _ _ _ _)
  unfold namesOf
  split
  · unfold way0
    have e1 := Int.emod_nonneg (drawM cells (drawM cells s 4).2 26).1 (show (12 : Int) ≠ 0 by decide)
    have e2 := Int.emod_lt_of_pos (drawM cells (drawM cells s 4).2 26).1 (show (0 : Int) < 12 by decide)
    exact way0_ok ⟨((drawM cells (drawM cells s 4).2 26).1 % 12).toNat, by omega⟩
  · split
    · have := way1_ok ⟨(drawM cells (drawM cells s 4).2 26).1.toNat, by omega⟩
      rw [show (((drawM cells (drawM cells s 4).2 26).1.toNat : Nat) : Int) = (drawM cells (drawM cells s 4).2 26).1 from Int.toNat_of_nonneg b1] at this
      exact this
    · exact way2_ok (baseX_strOk h2)
theorem deedOf_in {names : List Str} {w n : Str} {k : Int} (hw : w ∈ deedWs) (hn : n ∈ names) : deedIn names (deedOf w n k) := by
  unfold deedOf
  split
  · exact trivial
  · rename_i h1
    split
    · exact hn
    · rename_i h2
      split
      · exact hn
      · rename_i h3
        refine ⟨hn, ?_⟩
        simp only [deedWs, List.mem_cons, List.not_mem_nil, or_false] at hw
        rcases hw with e | e | e | e | e | e | e | e
        · exact absurd e h1
        · exact absurd e h1
        · exact absurd e h2
        · exact absurd e h3
        · rw [e]; simp
        · rw [e]; simp
        · rw [e]; simp
        · rw [e]; simp
theorem someD_in {cells : Cells} {names : List Str} {s : Bag} (h : BagOk cells s) (h0 : 0 < names.length) : deedIn names (someD cells names s) := by
  obtain ⟨k1, k2, k3⟩ := drawM_ok (many := (names.length : Nat)) h (by omega)
  obtain ⟨k4, k5, k6⟩ := drawM_ok (many := 4) k1 (by decide)
  obtain ⟨k7, k8, k9⟩ := drawM_ok (many := 8) k4 (by decide)
  have l1 : (drawM cells (drawM cells (drawM cells s (names.length : Nat)).2 4).2 8).1.toNat < deedWs.length := by show _ < 8; omega
  have l2 : (drawM cells s (names.length : Nat)).1.toNat < names.length := by omega
  refine deedOf_in ?_ ?_
  · rw [List.getD_eq_getElem?_getD, List.getElem?_eq_getElem l1]
    exact List.getElem_mem _
  · rw [List.getD_eq_getElem?_getD, List.getElem?_eq_getElem l2]
    exact List.getElem_mem _
theorem someM_ok {cells : Cells} {names : List Str} {s : Bag} (h : BagOk cells s) (h0 : 0 < names.length) : BagOk cells (someM cells names s).1 ∧ (∀ d ∈ (someM cells names s).2, deedIn names d) ∧ (someM cells names s).2.length ≤ 3 := by
  obtain ⟨k1, k2, k3⟩ := drawM_ok (many := 3) h (by decide)
  have key : ∀ (l : List Nat) (st : SSt), BagOk cells st.1 → (∀ d ∈ st.2, deedIn names d) → BagOk cells (l.foldl (fun st i => someF cells names i st) st).1 ∧ (∀ d ∈ (l.foldl (fun st i => someF cells names i st) st).2, deedIn names d) ∧ (l.foldl (fun st i => someF cells names i st) st).2.length = st.2.length + l.length := by
    intro l
    induction l with
    | nil => exact fun st a b => ⟨a, b, rfl⟩
    | cons i l ih =>
      intro st a b
      obtain ⟨m1, m2, m3⟩ := ih (someF cells names i st) (someB_ok a h0) fun d hd => by
        rcases List.mem_append.mp hd with z | z
        · exact b d z
        · rw [List.mem_singleton.mp z]; exact someD_in a h0
      refine ⟨m1, m2, m3.trans ?_⟩
      show (st.2 ++ [_]).length + l.length = st.2.length + (l.length + 1)
      rw [List.length_append, List.length_singleton]
      omega
  obtain ⟨m1, m2, m3⟩ := key (List.range (someN cells s)) ((drawM cells s 3).2, []) k1 fun d hd => by cases hd
  refine ⟨m1, m2, ?_⟩
  have e : (someM cells names s).2.length = 0 + (someN cells s) := by rw [← List.length_range (n := someN cells s)]; exact m3
  rw [e]
  unfold someN
  omega
end RQ
set_option Elab.async false
set_option linter.all false
set_option maxRecDepth 100000
set_option maxHeartbeats 4000000
namespace Dx
open PySem PySem.Spec PyProof.Rows L2
inductive Weak : LS → LS → Prop
  | nil : Weak [] []
  | no {x : Option D} {xs ys : LS} : Weak xs ys → Weak (x :: xs) (none :: ys)
  | yes {x : Option D} {xs ys : LS} : Weak xs ys → Weak (x :: xs) (x :: ys)
theorem Weak.ok {δ δ' : LS} (w : Weak δ δ') : δ.length = δ'.length ∧ ∀ (i : Nat) (d : D), δ'[i]? = some (some d) → δ[i]? = some (some d) := by
  induction w with
  | nil => exact ⟨rfl, fun i d h => h⟩
  | no w ih =>
    refine ⟨congrArg (· + 1) ih.1, fun i d h => ?_⟩
    cases i with
    | zero => simp at h
    | succ i => simpa using ih.2 i d (by simpa using h)
  | yes w ih =>
    refine ⟨congrArg (· + 1) ih.1, fun i d h => ?_⟩
    cases i with
    | zero => simpa using h
    | succ i => simpa using ih.2 i d (by simpa using h)
theorem RelS.weak {K : PySem.W.Frag} {M : AS} {H : Hp} {σ : L2.St} {δ δ' : LS} (r : RelS K M H σ δ) (w : Weak δ δ') : RelS K M H σ δ' := ⟨r.1.trans w.ok.1, fun i d h => r.2 i d (w.ok.2 i d h)⟩
section
variable {X : Cx} {M : AS} {A B C G : As} {δ δ' : LS} {H0 : Hp} {φ : Hp → LS → Prop} {pos p p2 apos cpos epos : Pos} {x y z d : D} {a b c e o tg iter : Expr} {st lp : Stmt} {rest sts : List Stmt} {ou : Out} {Bg : Gh → As} {dg : Gh → D}
theorem p_weak (w : Weak δ δ') (h : PSs X sts (tP X.K M H0 δ' φ)) : PSs X sts (tP X.K M H0 δ φ) := pss_imp h fun E σ H ⟨e, tr, r, q⟩ => ⟨e, tr, r.weak w, q⟩
theorem p_weakS (w : Weak δ δ') (h : PS X st (tP X.K M H0 δ' φ)) : PS X st (tP X.K M H0 δ φ) := ps_imp h fun E σ H ⟨e, tr, r, q⟩ => ⟨e, tr, r.weak w, q⟩
theorem p_nilW (w : Weak δ δ') (h : φ H0 δ') : PSs X [] (tP X.K M H0 δ φ) := p_weak w (p_nil h)
theorem Weak.self : ∀ δ : LS, Weak δ δ
  | [] => .nil
  | _ :: δ => .yes (Weak.self δ)
/-- a for whose outcome does not matter -/
theorem ss_forRt (hfor : ∀ H0, A.p H0 → Tr M H0 → PS X lp (tP X.K M H0 δ (fun _ _ => True))) (hret : ∀ δ', PSs X rest (tO X.K M (As.pure True) δ' ou)) : PSs X (lp :: rest) (tO X.K M A δ ou) :=
  pss_imp (pss_cons (ps_anyS (st := lp)) (pss_any (sts := rest))) fun E σ H ⟨s, q⟩ => ⟨_, hfor H s.a s.tr, rfl, s.tr, s.s, fun σ' H' δ' k _ r => ⟨_, hret δ', ⟨trivial, tr_kp s.tr k, r⟩, Out.ok_kp k q⟩⟩
theorem c_callG1 {k : Nat} {f : Addr} {ps : List Str} {sp : Sp} {n : Str} (F : Has X.prog X.w X.K X.mg X.base k f ps sp) (hr : Room k X.A) (hm : X.mg n = some (.ref f)) (he : PE X e (tCG X.K M A δ Bg dg)) (h : ∀ g, SpOk X.K M sp (Bg g) [dg g] B d)
    (hg : Gl X n := by rfl) (hdb : (n == ("__debug__" : Str)) = false := by decide) (hs : starEach (e :: []) X.env = (false, eval e X.env) :: starEach [] X.env := by rfl) (hpl : (backTo pos (starEach [] X.env)).any (·.1) = false := by rfl) : PE X (.Call (.Name n p) [e] [] pos) (tC X.K M A δ B d) := by
  obtain ⟨fd, F, hb, hk⟩ := F
  exact pe_imp (pe_call F hr hg hm hk hb .nil pass0 (a_oneG he hs) hdb hs hpl) fun σ H Q ⟨s, q⟩ => ⟨s, fun g vs H1 n k1 b1 r1 => by
    show sp (vs ++ []) H1 Q E0
    rw [List.append_nil]
    exact h g H1 vs Q b1 (tr_kp s.tr k1) r1 fun v H2 k2 c2 r2 => q v H2 (k1.trans k2) c2 r2⟩
/-- C(e, ..): the new object is none that the state leans on -/
theorem g_makeF {k : Nat} {f : Addr} {ps : List Str} {sp : Sp} {es : List Expr} {ds : List D} {n : Str} {Cl : Addr} {Gi : Addr → Gh → As} (Mk0 : Mk X.K Cl f) (F : Has X.prog X.w X.K X.mg X.base k f ps sp) (hr : Room (k + 1) X.A) (hm : X.mg n = some (.ref Cl)) (ha : PA X (e :: es) (tCA X.K M A δ B ds))
    (h : ∀ q, ¬ B.L q → SpOkG X.K M sp (newO X.K B q Cl) (.ref q :: ds) (Gi q) (fun _ => .non)) (hg : Gl X n := by rfl) (hdb : (n == ("__debug__" : Str)) = false := by decide) (he : starEach (e :: es) X.env = (false, eval e X.env) :: starEach es X.env := by rfl) (hpl : (backTo pos (starEach es X.env)).any (·.1) = false := by rfl) :
    PE X (.Call (.Name n p) (e :: es) [] pos) (tCG X.K M A δ (fun g => Gi (g 0) (fun i => g (i + 1))) (fun g => .ref (g 0))) := by
  obtain ⟨fd, F, hb, hk⟩ := F
  exact pe_imp (pe_make Mk0 F hr hg hm hb .nil pass0 ha hdb he hpl) fun σ H Q ⟨s, q⟩ => ⟨s, fun vs H1 k1 b1 r1 => fun x dx hx hdx ne => by
    rw [List.append_nil]
    have e1 : Same H1 (upd (upd H1 dx (.own x)) x (.ins Cl dx [])) := (Same.new hdx).trans (Same.new (by rw [upd_ne (Ne.symm ne)]; exact hx))
    refine h x (fun z => B.trk b1 z hx) _ _ _ ⟨B.mono e1 b1, dx, [], upd_same, .nil⟩ (tr_kp s.tr (k1.trans (.of_same e1))) (.cons (.ref x) (r1.kp (.of_same e1) _ _)) fun g v H2 n k2 c2 r2 => ?_
    refine ⟨r2.non_inv, ?_⟩
    have n1 : ∀ i, H (g i) = none := fun i => k1.free ((Kp.of_same (M := M) e1).free (n i))
    exact q (fun i => match i with
      | 0 => x
      | i + 1 => g i) _ H2 (fun i => match i with
      | 0 => k1.free hx
      | i + 1 => n1 i) ((k1.trans (.of_same e1)).trans k2) c2 (.ref x)⟩
theorem g_lst {es : List Expr} {ds : Gh → List D} (h : PA X es (tCAG X.K M A δ Bg ds)) (hz : ∀ g, (ds g).length ≤ 100) : PE X (.List es pos) (tCG X.K M A δ Bg (fun g => .lst (ds g))) :=
  pe_imp (pe_lst h) fun σ H Q ⟨s, q⟩ => ⟨s, fun g vs H1 n k1 b1 r1 => ⟨by rw [r1.length]; exact Nat.le_trans (hz g) (by decide), fun p hp => q g _ _ n (k1.trans (.new hp)) ((Bg g).mono (Same.new hp) b1) (.lst upd_same (tr_new (tr_kp s.tr k1) hp) (Same.newK hp r1))⟩⟩
end
end Dx
namespace RQ
open PySem PySem.Spec PyProof.Rows L2 Dx
section
variable {K : PySem.W.Frag} {H H' : Hp}
/-! ### frames -/
/-- a list, or a book -/
def Lk (K : PySem.W.Frag) (H : Hp) (x : Addr) : Prop := (∃ xs, H x = some (.lst xs)) ∨ ∃ dx fs, H x = some (.ins (atG "Book" K) dx fs) ∧ fs.length = 5
theorem Lk.tab {x t : Addr} {es : List (Str × D)} (h : Lk K H x) (h2 : (tabA K t es).p H) : x ≠ t := fun z => by
  obtain ⟨kvs, e, _⟩ := h2
  rw [← z] at e
  rcases h with ⟨xs, h⟩ | ⟨dx, fs, h, _⟩
  · rw [h] at e; cases e
  · rw [h] at e; cases e
theorem Lk.ins {x q C : Addr} {es : List (Str × D)} (h : Lk K H x) (h2 : (insA K q C es).p H) (hl : es.length ≠ 5) : x ≠ q := fun z => by
  obtain ⟨dx2, fs2, e, r⟩ := h2
  rw [← z] at e
  rcases h with ⟨xs, h⟩ | ⟨dx, fs, h, l⟩
  · rw [h] at e; cases e
  · rw [h] at e
    cases e
    exact hl (by rw [← r.len]; exact l)
theorem boO_lk {b a q e u : Addr} {es : Log} (h : (boO K b a q es e u).p H) : Lk K H b := let ⟨dx, fs, h1, r⟩ := h; .inr ⟨dx, fs, h1, r.len⟩
theorem lst_lk {q : Addr} {ds : List D} (h : (lstA K q ds).p H) : Lk K H q := let ⟨_, xs, h, _⟩ := h; .inl ⟨xs, h⟩
theorem earl_lk {q : Addr} {n : Nat} {last : Option D} (h : (earlA K q n last).p H) : Lk K H q := let ⟨_, h, _⟩ := h; lst_lk h
theorem set_mv {a : Addr} {S : Cfg} {Sx : List Addr} (h : SetAt K H a S) (m : Mv Sx H H') (lk : ∀ x ∈ Sx, Lk K H x) : SetAt K H' a S := by
  obtain ⟨dx, t, h1, h2⟩ := h
  refine ⟨dx, t, m.keep a _ h1 fun z => ?_, m.keep t _ h2 fun z => ?_⟩
  · rcases lk a z with ⟨xs, e⟩ | ⟨dx, fs, e, l⟩
    · rw [h1] at e; cases e
    · rw [h1] at e
      injection e with e
      injection e with _ _ e3
      rw [← e3] at l
      cases l
  · rcases lk t z with ⟨xs, e⟩ | ⟨dx, fs, e, l⟩
    · rw [h2] at e; cases e
    · rw [h2] at e; cases e
theorem qu_mv {q a t : Addr} {clk : Int} {tab : Tab} {Sx : List Addr} (h : QuR K H q a t clk tab) (m : Mv Sx H H') (lk : ∀ x ∈ Sx, Lk K H x) : QuR K H' q a t clk tab :=
  ⟨(quO K q a t clk).frame m (fun x hx (l : x = q) => absurd l ((lk x hx).ins h.1 (show 3 ≠ 5 by decide))) h.1, (tabA K t _).frame m (fun x hx (l : x = t) => absurd l ((lk x hx).tab h.2)) h.2⟩
theorem bag_mv {p q : Addr} {cells : Cells} {s : Bag} {Sx : List Addr} (h : (bagA K p q cells s).p H) (m : Mv Sx H H') (hp : p ∉ Sx) (hq : q ∉ Sx) : (bagA K p q cells s).p H' :=
  (bagA K p q cells s).frame m (fun x hx l => l.elim (fun (l : x = p) => absurd (l ▸ hx) hp) fun (l : x = q) => absurd (l ▸ hx) hq) h
theorem boA_mv {b a o t e u : Addr} {es : Log} {clk : Int} {tab : Tab} {n : Nat} {last : Option D} {Sx : List Addr} (h : (boA K b a o t e u es clk tab n last).p H) (m : Mv Sx H H') (lk : ∀ x ∈ Sx, Lk K H x) (hb : b ∉ Sx) (he : e ∉ Sx) (hu : u ∉ Sx) : (boA K b a o t e u es clk tab n last).p H' := by
  obtain ⟨h1, ⟨h2, h3⟩, h4⟩ := h
  have hq := qu_mv (a := a) (⟨h4.1, h4.2⟩ : QuR K H o a t clk tab) m lk
  exact ⟨(boO K b a o es e u).frame m (fun x hx (l : x = b) => absurd (l ▸ hx) hb) h1, ⟨(earlA K e n last).frame m (fun x hx (l : x = e) => absurd (l ▸ hx) he) h2, (lstA K u []).frame m (fun x hx (l : x = u) => absurd (l ▸ hx) hu) h3⟩, hq.1, hq.2⟩
/-- a book that has done es -/
def BkH (K : PySem.W.Frag) (a : Addr) (S : Cfg) (b e u : Addr) (es : Log) (n : Nat) (H : Hp) : Prop := ∃ (o t : Addr) (last : Option D), (boA K b a o t e u es (runL S es ([], 0)).2 (runL S es ([], 0)).1 n last).p H
/-- .. and es' before -/
def BkP (K : PySem.W.Frag) (a : Addr) (S : Cfg) (b e u : Addr) (es es' : Log) (n : Nat) (H : Hp) : Prop := ∃ (o t o' t' : Addr), (boA K b a o t e u es (runL S es ([], 0)).2 (runL S es ([], 0)).1 n (some (.tup [logD es', .ref o']))).p H ∧ QuR K H o' a t' (runL S es' ([], 0)).2 (runL S es' ([], 0)).1
theorem BkP.h {a b e u : Addr} {S : Cfg} {es es' : Log} {n : Nat} (h : BkP K a S b e u es es' n H) : BkH K a S b e u es n H := let ⟨o, t, o', t', h1, h2⟩ := h; ⟨o, t, _, h1⟩
theorem BkH.mv {a b e u : Addr} {S : Cfg} {es : Log} {n : Nat} {Sx : List Addr} (h : BkH K a S b e u es n H) (m : Mv Sx H H') (lk : ∀ x ∈ Sx, Lk K H x) (hb : b ∉ Sx) (he : e ∉ Sx) (hu : u ∉ Sx) : BkH K a S b e u es n H' := let ⟨o, t, last, h1⟩ := h; ⟨o, t, last, boA_mv h1 m lk hb he hu⟩
theorem BkP.mv {a b e u : Addr} {S : Cfg} {es es' : Log} {n : Nat} {Sx : List Addr} (h : BkP K a S b e u es es' n H) (m : Mv Sx H H') (lk : ∀ x ∈ Sx, Lk K H x) (hb : b ∉ Sx) (he : e ∉ Sx) (hu : u ∉ Sx) : BkP K a S b e u es es' n H' := let ⟨o, t, o', t', h1, h2⟩ := h; ⟨o, t, o', t', boA_mv h1 m lk hb he hu, qu_mv h2 m lk⟩
theorem BkH.lk {a b e u : Addr} {S : Cfg} {es : Log} {n : Nat} (h : BkH K a S b e u es n H) : ∀ x ∈ [b, e, u], Lk K H x := fun x hx => by
  obtain ⟨o, t, last, h1, ⟨h2, h3⟩, _⟩ := h
  simp only [List.mem_cons, List.not_mem_nil, or_false] at hx
  rcases hx with z | z | z
  · rw [z]; exact boO_lk h1
  · rw [z]; exact earl_lk h2
  · rw [z]; exact lst_lk h3
theorem bag_upd {p q r : Addr} {cells : Cells} {s : Bag} {u : HO} (h : (bagA K p q cells s).p H) (e : ∃ xs, H r = some (.lst xs)) (n1 : r ≠ p) (n2 : r ≠ q) : (bagA K p q cells s).p (upd H r u) := by
  obtain ⟨xs, e⟩ := e
  exact bag_mv h (Mv.upd (S := [r]) e (fun _ z => by cases z) (by simp)) (by simpa using n1.symm) (by simpa using n2.symm)
def BagH (K : PySem.W.Frag) (p q : Addr) (cells : Cells) (H : Hp) : Prop := ∃ s, BagOk cells s ∧ (bagA K p q cells s).p H
theorem BagH.mv {p q : Addr} {cells : Cells} {Sx : List Addr} (h : BagH K p q cells H) (m : Mv Sx H H') (hp : p ∉ Sx) (hq : q ∉ Sx) : BagH K p q cells H' := let ⟨s, h1, h2⟩ := h; ⟨s, h1, bag_mv h2 m hp hq⟩
theorem BagH.lk {p q : Addr} {cells : Cells} (h : BagH K p q cells H) : Lk K H p := let ⟨_, _, h⟩ := h; lst_lk h.1
end
/-- a new book's things -/
def bookN (K : PySem.W.Frag) (a b o t e u : Addr) : As := (boO K b a o [] e u).and ((quO K o a t 0).and ((tabA K t []).and ((earlA K e 0 none).and ((lstA K u []).and (As.pure (e ≠ u))))))
theorem bookN_h {K : PySem.W.Frag} {a b o t e u : Addr} {S : Cfg} {H : Hp} (h : (bookN K a b o t e u).p H) : BkH K a S b e u [] 0 H := ⟨o, t, none, h.1, ⟨h.2.2.2.1, h.2.2.2.2.1⟩, h.2.1, h.2.2.1⟩
/-- the entries so far -/
structure EntsOk (names : List Str) (puts : List Deed) (es : Log) (now : Int) : Prop where
  ents : ∀ e ∈ es, EntG names e
  so : SSo ((0, puts) :: es)
  le : ∀ e ∈ es, e.1 ≤ now
  pos : 1 ≤ now
theorem EntsOk.snoc {names : List Str} {puts : List Deed} {es : Log} {now d : Int} {deeds : List Deed} (h : EntsOk names puts es now) (h0 : 0 ≤ d) (hd : ∀ x ∈ deeds, deedIn names x) (hl : deeds.length ≤ 3) : EntsOk names puts (es ++ [(now + 1 + d, deeds)]) (now + 1 + d) := by
  have := h.pos
  refine ⟨fun e he => ?_, ?_, fun e he => ?_, by omega⟩
  · rcases List.mem_append.mp he with z | z
    · exact h.ents e z
    · rw [List.mem_singleton.mp z]
      exact ⟨hd, Nat.le_trans hl (by decide)⟩
  · show SSo (((0, puts) :: es) ++ [(now + 1 + d, deeds)])
    refine List.pairwise_append.mpr ⟨h.so, List.pairwise_singleton _ _, fun x hx y hy => ?_⟩
    rw [List.mem_singleton.mp hy]
    show x.1 < now + 1 + d
    rcases List.mem_cons.mp hx with z | z
    · rw [z]
      show (0 : Int) < _
      omega
    · have := h.le x z
      omega
  · rcases List.mem_append.mp he with z | z
    · have := h.le e z
      omega
    · rw [List.mem_singleton.mp z]
      exact Int.le_refl _
section
variable {X : Cx} {M : AS} {A B : As} {δ : LS} {H0 : Hp} {pos p p1 apos : Pos} {e e1 e2 a b : Expr}
/-- a draw from a heap -/
theorem e_drawH (T : Txt X.K X.mg) {pB q : Addr} {cells : Cells} {s : Bag} {many : Int} (hr : Room 1 X.A) (hM : M.c pB) (hpq : pB ≠ q) (ok : BagOk cells s) (hb0 : (bagA X.K pB q cells s).p H0) (h0 : 0 < many) (h1 : many < 1000) (hb : ∀ A, PE X e1 (tC X.K M A δ A (.ref pB))) (hm : PE X e2 (tC X.K M ((As.mv [pB] H0).and (bagA X.K pB q cells s)) δ ((As.mv [pB] H0).and (bagA X.K pB q cells s)) (.int many)))
    (hg : Gl X "_law_take" := by rfl) (hs : starEach (e1 :: [e2]) X.env = (false, eval e1 X.env) :: starEach [e2] X.env := by rfl) (hs2 : starEach (e2 :: []) X.env = (false, eval e2 X.env) :: starEach [] X.env := by rfl) (hpl : (backTo pos (starEach [e2] X.env)).any (·.1) = false := by rfl) :
    PE X (.Call (.Name "_law_take" p1) [e1, e2] [] pos) (tC X.K M (As.same H0) δ ((As.mv [pB] H0).and (bagA X.K pB q cells (drawM cells s many).2)) (.int (drawM cells s many).1)) :=
  e_from (e_draw (R := As.mv [pB] H0) T hr (fun z => z.2 (by simp)) hM hpq ok h0 h1 (hb _) hm hg hs hs2 hpl) fun H e => ⟨.of_same e, (bagA X.K pB q cells s).mono e hb0⟩
theorem e_drawR (T : Txt X.K X.mg) {pB q : Addr} {cells : Cells} {s : Bag} {many : Int} (hr : Room 1 X.A) (hM : M.c pB) (hpq : pB ≠ q) (ok : BagOk cells s) (h0 : 0 < many) (h1 : many < 1000) (hb : ∀ A, PE X e1 (tC X.K M A δ A (.ref pB))) (hm : PE X e2 (tC X.K M ((As.mv [pB] H0).and (bagA X.K pB q cells s)) δ ((As.mv [pB] H0).and (bagA X.K pB q cells s)) (.int many)))
    (hg : Gl X "_law_take" := by rfl) (hs : starEach (e1 :: [e2]) X.env = (false, eval e1 X.env) :: starEach [e2] X.env := by rfl) (hs2 : starEach (e2 :: []) X.env = (false, eval e2 X.env) :: starEach [] X.env := by rfl) (hpl : (backTo pos (starEach [e2] X.env)).any (·.1) = false := by rfl) :
    PE X (.Call (.Name "_law_take" p1) [e1, e2] [] pos) (tC X.K M ((As.mv [pB] H0).and (bagA X.K pB q cells s)) δ ((As.mv [pB] H0).and (bagA X.K pB q cells (drawM cells s many).2)) (.int (drawM cells s many).1)) :=
  e_draw (R := As.mv [pB] H0) T hr (fun z => z.2 (by simp)) hM hpq ok h0 h1 (hb _) hm hg hs hs2 hpl
/-- one book == another -/
theorem t_bookEq (T : Txt X.K X.mg) {b1 b2 : Addr} (hr : Room 2 X.A) (ha : PE X a (tC X.K M (As.same H0) δ (As.same H0) (.ref b1))) (hb : PE X b (tC X.K M (As.same H0) δ (As.same H0) (.ref b2))) (hR : ∀ H, Same H0 H → RBook X.K b1 b2 H) (hm : behindInMarks .Eq b = false := by first | rfl | exact nomark _) : PT X (.Compare a [.Eq] [b] pos) (tCT X.K M (As.same H0) δ (As.same H0) true) := by
  obtain ⟨fdB, FB, hbB, _⟩ := h_Book_eq (P := X.prog) (w := X.w) (base := X.base) T
  refine t_cmp (op_eqG (rcG_ins FB (eq_Book T).1 (eq_Book T).2 hbB pass0) hr) ha hb (fun H' v w c tr r1 r2 Q q => ?_) hm
  cases r1
  cases r2
  obtain ⟨a, q1, q2, e1, e2, u1, u2, S, es, h1, h2, h3⟩ := hR H' c
  obtain ⟨dx1, fs1, i1, j1⟩ := id h1
  obtain ⟨dx2, fs2, i2, j2⟩ := id h2
  exact ⟨⟨b1, b2, dx1, dx2, fs1, fs2, rfl, rfl, i1, i2, a, q1, q2, e1, e2, u1, u2, S, es, h1, h2, h3⟩, fun H2 e => q _ H2 e (.bl true)⟩
/-- _law_shown(b.queue()) -/
theorem e_shownQ (T : Txt X.K X.mg) {b aS q t e u : Addr} {S : Cfg} {es : Log} {clk : Int} {tab : Tab} {o : Expr} {p2 p3 ap : Pos} (hr : Room 7 X.A) (ho : PE X o (tC X.K M (As.same H0) δ (As.same H0) (.ref b))) (hb : (boO X.K b aS q es e u).p H0) (hq : QuR X.K H0 q aS t clk tab) (hS : SetAt X.K H0 aS S) (ok : SOk S) (tok : TabOk tab)
    (hq' : PE X (.Call (.Attribute o "queue" ap) [] [] p3) (tCG X.K M (As.same H0) δ (fun g => (As.same H0).and ((quO X.K (g 0) aS (g 1) clk).and (tabA X.K (g 1) (tabD tab)))) (fun g => .ref (g 0)))) (hg : Gl X "_law_shown" := by rfl) (hs : starEach ((.Call (.Attribute o "queue" ap) [] [] p3) :: []) X.env = (false, eval (.Call (.Attribute o "queue" ap) [] [] p3) X.env) :: starEach [] X.env := by rfl) (hpl : (backTo pos (starEach [] X.env)).any (·.1) = false := by rfl) :
    PE X (.Call (.Name "_law_shown" p1) [.Call (.Attribute o "queue" ap) [] [] p3] [] pos) (tC X.K M (As.same H0) δ (As.same H0) (shownD S clk tab)) :=
  c_callG1 (h_shown T) hr (g_law_shown T) hq' (fun g => fun H vs Q a t r q => spF_ok (A := (As.same H0).and ((quO X.K (g 0) aS (g 1) clk).and (tabA X.K (g 1) (tabD tab)))) (d := shownD S clk tab) (pre := preShown X.K) (fun H c => ⟨g 0, aS, g 1, S, clk, tab, rfl, ⟨c.2.1, c.2.2⟩, hS.same c.1, ok, tok, rfl⟩) H vs Q a t r fun v H' k c r => q v H' k c.1 r) hg (by decide) hs hpl
end
end RQ
set_option Elab.async false
set_option linter.all false
set_option maxRecDepth 100000
set_option maxHeartbeats 4000000
namespace RQ
open PySem PySem.Spec PyProof.Rows L2 Dx
section
variable {P : Program} {w : World} {K : PySem.W.Frag} {mg : Str → Option Value} {base : Heap}
abbrev NW : List Str := ["_law_script", "_law_bag_here", "_law_turn", "_law_lines_here", "_law_names_here", "_law_setting", "_law_puts", "_law_seen", "_law_name", "_law_book", "_law_other", "_law_now", "_law_entries", "_law_k", "_law_when", "_law_deeds", "_law_told", "_law_turned", "_law_entry", "_law_rest", "_law_word", "_law_text"]
theorem sc_law : FnScope NW ["_law_script"] (defScope s_law) := ⟨rfl, rfl, rfl, by decide +kernel, rfl, by decide +kernel, by decide +kernel⟩
def turnBody : List Stmt := match defBody s_law with
  | _ :: .For _ _ b _ _ :: _ => b
  | _ => []
abbrev XL (P : Program) (w : World) (K : PySem.W.Frag) (mg : Str → Option Value) (base : Heap) (cdv : Value) (A : Around) (outer : List Env) (s : Shared) (H : Hp) (E : XK) : Cx := (cxOf CX0 P w K mg base NW "law" (defScope s_law) (atG "law" K) cdv A outer s H E).nox
def δ0 (p : Addr) : LS := [none, some (.ref p), none, none, none, none, none, none, none, none, none, none, none, none, none, none, none, none, none, none, none, none]
def fLine : D → D
  | .tup [.str k, .str v] => .str (k ++ " " ++ v)
  | _ => .non
/-- the first puts -/
def putsPre : List Str → List Deed → Prop
  | [], [] => True
  | n :: ns, d :: ds => (∃ (k : Str) (w due : Int), PyData.strOk k = true ∧ d = .put n k w due none) ∧ putsPre ns ds
  | _, _ => False
theorem putsPre_snoc : ∀ {ns : List Str} {ds : List Deed} {n : Str} {d : Deed}, putsPre ns ds → (∃ (k : Str) (w due : Int), PyData.strOk k = true ∧ d = .put n k w due none) → putsPre (ns ++ [n]) (ds ++ [d])
  | [], [], n, d, _, h => ⟨h, trivial⟩
  | _ :: ns, _ :: ds, n, d, h, k => ⟨h.1, putsPre_snoc h.2 k⟩
  | [], _ :: _, _, _, h, _ => h.elim
  | _ :: _, [], _, _, h, _ => h.elim
theorem putsPre_len : ∀ {ns : List Str} {ds : List Deed}, putsPre ns ds → ds.length = ns.length
  | [], [], _ => rfl
  | _ :: ns, _ :: ds, h => congrArg (· + 1) (putsPre_len h.2)
  | [], _ :: _, h => h.elim
  | _ :: _, [], h => h.elim
def entL (e : Int × List Deed) : D := .tup [.int e.1, .lst (e.2.map deedD)]
end
end RQ
set_option Elab.async false
set_option linter.all false
set_option maxRecDepth 100000
set_option maxHeartbeats 4000000
namespace Dx
open PySem PySem.Spec PyProof.Rows L2
theorem pe_wk {X : Cx} {M : AS} {H0 : Hp} {δ : LS} {e : Expr} {ψ ψ1 : Hp → D → Prop} (h : PE X e (tPE X.K M H0 δ ψ1)) (i : ∀ H' d, Kp M H0 H' → ψ1 H' d → ψ H' d) : PE X e (tPE X.K M H0 δ ψ) := pe_imp h fun σ H Q ⟨e, tr, r, q⟩ => ⟨e, tr, r, fun v H' d k p r' => q v H' d k (i H' d k p) r'⟩
end Dx
namespace RQ
open PySem PySem.Spec PyProof.Rows L2 Dx
theorem runL_snoc (S : Cfg) (es : Log) (p : Int × List Deed) (s : QSt) : runL S (es ++ [p]) s = runE S (runL S es s) p := by unfold runL; rw [List.foldl_append] <;> rfl
section
variable {K : PySem.W.Frag} {M : AS} {H0 H1 : Hp} {b a o t e u : Addr} {S : Cfg} {es es' : Log} {n : Nat} {last : Option D} {now : Int} {deeds : List Deed}
theorem boA_lk {clk : Int} {tab : Tab} (h : (boA K b a o t e u es clk tab n last).p H0) : ∀ x ∈ [b, e, u], Lk K H0 x := fun x hx => by
  obtain ⟨h1, ⟨h2, h3⟩, _⟩ := h
  simp only [List.mem_cons, List.not_mem_nil, or_false] at hx
  rcases hx with z | z | z
  · rw [z]; exact boO_lk h1
  · rw [z]; exact earl_lk h2
  · rw [z]; exact lst_lk h3
/-- b.do(now, deeds) -/
theorem doSp (hA : (boA K b a o t e u es (runL S es ([], 0)).2 (runL S es ([], 0)).1 n last).p H0) (hset : SetAt K H0 a S) (ok : SOk S) (hent : EntOk S (runL S es ([], 0)) (now, deeds)) (tok : TabOk (runL S es ([], 0)).1) (me : M.c e) (mu : M.c u) (ne : e ≠ u) (hn : n < 1000) (hes : es.length < 100) :
    SpOkG K M (spWG K (preBDo K)) (As.same H0) [.ref b, .int now, .lst (deeds.map deedD)] (fun g => (As.mv [b, e, u] H0).and (boA K b a (g 0) (g 1) e u (es ++ [(now, deeds)]) now (doT S now (runL S es ([], 0)).1 deeds) (n + 1) (some (.tup [logD es, .ref o])))) (fun _ => .lst (doR S now (runL S es ([], 0)).1 deeds)) :=
  spWG_ok (fun H c => by
    have h := (boA K b a o t e u es (runL S es ([], 0)).2 (runL S es ([], 0)).1 n last).mono c hA
    exact ⟨b, a, o, t, e, u, S, es, (runL S es ([], 0)).2, now, (runL S es ([], 0)).1, n, last, deeds, rfl, ⟨h.1, ⟨h.2.2.1, h.2.2.2⟩, h.2.1.1, h.2.1.2, hset.same c, ok, tok, ne, hn⟩, me, mu, hent.1, hent.2.1, hent.2.2, hes, rfl, rfl, rfl⟩) fun g H H' nw c m k => ⟨(Mv.of_same c).trans m, k⟩
theorem do_after {g : Gh} (hA : (boA K b a o t e u es (runL S es ([], 0)).2 (runL S es ([], 0)).1 n last).p H0) (c : ((As.mv [b, e, u] H0).and (boA K b a (g 0) (g 1) e u (es ++ [(now, deeds)]) now (doT S now (runL S es ([], 0)).1 deeds) (n + 1) (some (.tup [logD es, .ref o])))).p H1) : BkP K a S b e u (es ++ [(now, deeds)]) es (n + 1) H1 := by
  refine ⟨g 0, g 1, o, t, ?_, qu_mv (a := a) ⟨hA.2.2.1, hA.2.2.2⟩ c.1 (boA_lk hA)⟩
  rw [runL_snoc]
  exact c.2
/-- b.late(now, deeds) -/
theorem lateSp (hA : (boA K b a o t e u es (runL S es ([], 0)).2 (runL S es ([], 0)).1 n last).p H0) (hset : SetAt K H0 a S) (ok : SOk S) (hlog : LogOk S ([], 0) (lateL es now deeds)) (me : M.c e) (mu : M.c u) (ne : e ≠ u) (hn : n < 1000) (hes : es.length < 100) :
    SpOkG K M (spWG K (preLate K)) (As.same H0) [.ref b, .int now, .lst (deeds.map deedD)] (fun g => (As.mv [b, e, u] H0).and (boA K b a (g 0) (g 1) e u (lateL es now deeds) (runL S (lateL es now deeds) ([], 0)).2 (runL S (lateL es now deeds) ([], 0)).1 (n + 1) (some (.tup [logD es, .ref o])))) (fun _ => .lst (doR S now (runL S (es.take (placeM es now)) ([], 0)).1 deeds)) :=
  spWG_ok (fun H c => by
    have h := (boA K b a o t e u es (runL S es ([], 0)).2 (runL S es ([], 0)).1 n last).mono c hA
    exact ⟨b, a, o, e, u, S, es, now, deeds, n, last, rfl, h.1, h.2.1.1, h.2.1.2, me, mu, ne, hn, hset.same c, ok, hes, hlog, rfl, rfl, rfl⟩) fun g H H' nw c m k => ⟨(Mv.of_same c).trans m, k⟩
theorem late_after {g : Gh} (hA : (boA K b a o t e u es (runL S es ([], 0)).2 (runL S es ([], 0)).1 n last).p H0) (c : ((As.mv [b, e, u] H0).and (boA K b a (g 0) (g 1) e u (lateL es now deeds) (runL S (lateL es now deeds) ([], 0)).2 (runL S (lateL es now deeds) ([], 0)).1 (n + 1) (some (.tup [logD es, .ref o])))).p H1) : BkP K a S b e u (lateL es now deeds) es (n + 1) H1 :=
  ⟨g 0, g 1, o, t, c.2, qu_mv (a := a) ⟨hA.2.2.1, hA.2.2.2⟩ c.1 (boA_lk hA)⟩
end
/-! what do returns, entry by entry -/
noncomputable def toldF (S : Cfg) (p : Int × List Deed) (s : QSt) : QSt × D := (runE S s p, .lst (doR S p.1 s.1 p.2))
theorem told_fins (S : Cfg) : ∀ (es : Log) (s : QSt), fins (toldF S) es s = runL S es s := fun _ _ => rfl
theorem runL_cons (S : Cfg) (p : Int × List Deed) (es : Log) (s : QSt) : runL S (p :: es) s = runL S es (runE S s p) := rfl
theorem WholeG.take {S : Cfg} {ns : List Str} {puts : List Deed} {es : Log} (h : WholeG S ns puts es) (i : Nat) : WholeG S ns puts (es.take i) :=
  h.sub ((List.pairwise_cons.mp h.so).2.sublist (List.take_sublist i es)) fun p hp => List.mem_of_mem_take hp
/-- the next entry may be done -/
theorem WholeG.next {S : Cfg} {ns : List Str} {puts : List Deed} {es : Log} (h : WholeG S ns puts es) {i : Nat} {p : Int × List Deed} (hp : es[i]? = some p) : EntOk S (runL S ((0, puts) :: es.take i) ([], 0)) p ∧ OkD 3 (.lst (doR S p.1 (runL S ((0, puts) :: es.take i) ([], 0)).1 p.2)) ∧ TabOk (runL S ((0, puts) :: es.take i) ([], 0)).1 := by
  have hi := (h.take i).log
  have hm : p ∈ es := List.mem_of_getElem? hp
  have ht : (runL S ((0, puts) :: es.take i) ([], 0)).2 ≤ p.1 := by
    have key : ∀ (l : Log) (s : QSt), s.2 ≤ p.1 → (∀ q ∈ l, q.1 ≤ p.1) → (runL S l s).2 ≤ p.1 := by
      intro l
      induction l with
      | nil => exact fun s h _ => h
      | cons q l ih => exact fun s _ hq => ih _ (hq q (by simp)) fun r hr => hq r (by simp [hr])
    refine key _ _ (Int.le_of_lt (h.pos p hm)) fun q hq => ?_
    rcases List.mem_cons.mp hq with z | z
    · rw [z]; exact Int.le_of_lt (h.pos p hm)
    · obtain ⟨j, hj, e⟩ := List.getElem_of_mem z
      rw [List.getElem_take] at e
      rw [List.length_take] at hj
      have hil := (List.getElem?_eq_some_iff.mp hp).1
      have := List.pairwise_iff_getElem.mp (List.pairwise_cons.mp h.so).2 j i (by omega) hil (by omega)
      rw [e, (List.getElem?_eq_some_iff.mp hp).2] at this
      exact Int.le_of_lt this
  obtain ⟨a1, a2, a3⟩ := ent_ok h.fence hi.2 (h.ents p hm) ht
  exact ⟨a1, a3, hi.2.ok⟩
/-- the log while the entries are put in late -/
theorem late_shape {puts : List Deed} {us L : Log} (hs : SSo L) (hp : L.Perm ((0, puts) :: us)) (h0 : ∀ u ∈ us, 0 < u.1) : ∃ fs, L = (0, puts) :: fs ∧ fs.Perm us ∧ SSo fs := by
  cases L with
  | nil => exact absurd hp.length_eq (by simp)
  | cons x fs =>
    obtain ⟨a1, a2⟩ := List.pairwise_cons.mp hs
    have hx : x = (0, puts) := by
      rcases List.mem_cons.mp (hp.mem_iff.mp (List.mem_cons_self)) with z | z
      · exact z
      · rcases List.mem_cons.mp (hp.mem_iff.mpr (List.mem_cons_self (a := (0, puts)))) with y | y
        · exact y.symm
        · have := a1 _ y
          have := h0 x z
          have : x.1 < 0 := by assumption
          omega
    subst hx
    exact ⟨fs, rfl, (List.perm_cons _).mp hp, a2⟩
def latesI (puts : List Deed) (ts : Log) (i : Nat) : Log := lates [(0, puts)] (ts.take i)
theorem latesI_succ {puts : List Deed} {ts : Log} {i : Nat} {p : Int × List Deed} (h : ts[i]? = some p) : latesI puts ts (i + 1) = lateL (latesI puts ts i) p.1 p.2 := by
  unfold latesI lates
  rw [foldl_snoc_take h]
theorem WholeG.lates {S : Cfg} {ns : List Str} {puts : List Deed} {es ts : Log} (h : WholeG S ns puts es) (hp : ts.Perm es) (i : Nat) : ∃ fs, latesI puts ts i = (0, puts) :: fs ∧ fs.Perm (ts.take i) ∧ WholeG S ns puts fs := by
  have hnd : (([((0 : Int), puts)] ++ ts.take i : Log).map (·.1)).Nodup := by
    have h1 : ((((0 : Int), puts) :: ts : Log).map (·.1)).Nodup := ((((hp.cons (0, puts)).map (·.1)).nodup_iff).mpr h.so.nodup)
    exact h1.sublist (((List.take_sublist i ts).cons_cons (0, puts)).map (·.1))
  obtain ⟨k1, k2⟩ := lates_ok (ts := ts.take i) (es := [(0, puts)]) (List.pairwise_singleton _ _) hnd
  have hm : ∀ u ∈ ts.take i, u ∈ es := fun u hu => hp.mem_iff.mp (List.mem_of_mem_take hu)
  obtain ⟨fs, e, p1, p2⟩ := late_shape k1 k2 fun u hu => h.pos u (hm u hu)
  exact ⟨fs, e, p1, h.sub p2 fun q hq => hm q (p1.mem_iff.mp hq)⟩
theorem lates_all {puts : List Deed} {es ts : Log} (h : SSo ((0, puts) :: es)) (hp : ts.Perm es) : latesI puts ts ts.length = (0, puts) :: es := by
  unfold latesI
  rw [List.take_length]
  exact lates_eq (es := [(0, puts)]) h hp
noncomputable def seenD (S : Cfg) (puts : List Deed) (ts : Log) : Nat → D
  | 0 => .non
  | j + 1 => match ts[j]? with
    | some p => .lst (doR S p.1 (runL S ((latesI puts ts j).take (placeM (latesI puts ts j) p.1)) ([], 0)).1 p.2)
    | none => .non
/-! ### texts of a log -/
theorem deed_ok {names : List Str} (hn : ∀ n ∈ names, PyData.strOk n = true) {d : Deed} (h : deedIn names d) : OkD 1 (deedD d) := by
  have l2 : ∀ {x y : D}, OkD 0 x → OkD 0 y → OkD 1 (.tup [x, y]) := fun {x y} hx hy => ok_tup fun z hz => by
    rcases List.mem_cons.mp hz with e | e
    · rw [e]; exact hx
    · rw [List.mem_singleton.mp e]; exact hy
  cases d with
  | put => exact h.elim
  | take m => exact l2 (ok_str (by decide +kernel)) (ok_int _)
  | eff n => exact l2 (ok_str (by decide +kernel)) (ok_str (hn n h))
  | fol n => exact l2 (ok_str (by decide +kernel)) (ok_str (hn n h))
  | tok w n t =>
    have hw : PyData.strOk w = true := by
      have key : ∀ w ∈ [("finish" : Str), "fail", "give", "lost"], PyData.strOk w = true := by decide +kernel
      exact key w h.2
    refine ok_tup (k := 0) fun z hz => ?_
    simp only [List.mem_cons, List.not_mem_nil, or_false] at hz
    rcases hz with e | e | e
    · rw [e]; exact ok_str hw
    · rw [e]; exact ok_str (hn n h.1)
    · rw [e]; exact ok_int _
theorem put_ok {n key : Str} {w due : Int} {origin : Option Str} (h1 : PyData.strOk n = true) (h2 : PyData.strOk key = true) (h3 : ∀ o, origin = some o → PyData.strOk o = true) : OkD 1 (deedD (.put n key w due origin)) := by
  have ho : OkD 0 (oD origin) := by
    cases origin with
    | none => exact ok_non
    | some o => exact ok_str (h3 o rfl)
  refine ok_tup (k := 0) fun z hz => ?_
  simp only [List.mem_cons, List.not_mem_nil, or_false] at hz
  rcases hz with e | e | e | e | e | e
  · rw [e]; exact ok_str (by decide +kernel)
  · rw [e]; exact ok_str h1
  · rw [e]; exact ok_str h2
  · rw [e]; exact ok_int _
  · rw [e]; exact ok_int _
  · rw [e]; exact ho
theorem WholeG.deeds {S : Cfg} {ns : List Str} {puts : List Deed} {es : Log} (h : WholeG S ns puts es) : ∀ p ∈ ((0 : Int), puts) :: es, ∀ d ∈ p.2, OkD 1 (deedD d) := fun p hp d hd => by
  rcases List.mem_cons.mp hp with z | z
  · rw [z] at hd
    obtain ⟨a, b, c, d0, k1, k2, k3, w1, w2, w3, d1, d2, d3, hns, ⟨o1, o2, o3⟩, e⟩ := h.pk
    have hn := h.names.ok
    rw [hns] at hn
    have hd : d ∈ puts := hd
    rw [e] at hd
    simp only [List.mem_cons, List.not_mem_nil, or_false] at hd
    rcases hd with e | e | e | e
    · rw [e]; exact put_ok (hn a (by simp)) o1 fun o z => by cases z
    · rw [e]; exact put_ok (hn b (by simp)) o2 fun o z => by cases z
    · rw [e]; exact put_ok (hn c (by simp)) o3 fun o z => by cases z
    · rw [e]; exact put_ok (hn d0 (by simp)) (hn a (by simp)) fun o z => by cases z; exact hn a (by simp)
  · exact deed_ok h.names.ok ((h.ents p z).deeds d hd)
theorem WholeG.entry {S : Cfg} {ns : List Str} {puts : List Deed} {es : Log} (h : WholeG S ns puts es) : ∀ p ∈ ((0 : Int), puts) :: es, OkD 3 (entryD p) ∧ OkD 3 (entL p) := fun p hp => by
  have hl : ∀ d ∈ p.2.map deedD, OkD 1 d := fun d hd => by
    obtain ⟨x, hx, rfl⟩ := List.mem_map.mp hd
    exact h.deeds p hp x hx
  constructor
  · refine ok_tup (k := 2) fun z hz => ?_
    rcases List.mem_cons.mp hz with e | e
    · rw [e]; exact ok_int _
    · rw [List.mem_singleton.mp e]; exact ok_tup hl
  · refine ok_tup (k := 2) fun z hz => ?_
    rcases List.mem_cons.mp hz with e | e
    · rw [e]; exact ok_int _
    · rw [List.mem_singleton.mp e]; exact ok_lst hl
theorem WholeG.logd {S : Cfg} {ns : List Str} {puts : List Deed} {es : Log} (h : WholeG S ns puts es) : OkD 4 (logD ((0, puts) :: es)) ∧ OkD 4 (logL ((0, puts) :: es)) := by
  constructor
  · refine ok_tup (k := 3) fun z hz => ?_
    obtain ⟨p, hp, rfl⟩ := List.mem_map.mp hz
    exact (h.entry p hp).1
  · refine ok_lst (k := 3) fun z hz => ?_
    obtain ⟨p, hp, rfl⟩ := List.mem_map.mp hz
    exact (h.entry p hp).2
section
variable {K : PySem.W.Frag} {M : AS} {H0 H1 : Hp} {b a o t e u : Addr} {S : Cfg} {es es' : Log} {n : Nat} {last : Option D} {clk now : Int} {tab : Tab}
theorem queueSp (hb : (boO K b a o es e u).p H0) (hq : QuR K H0 o a t clk tab) : SpOkG K M (spWG K (preBQ K)) (As.same H0) [.ref b] (fun g => (As.same H0).and ((quO K (g 0) a (g 1) clk).and (tabA K (g 1) (tabD tab)))) (fun g => .ref (g 0)) :=
  spWG_ok (fun H c => ⟨b, a, o, t, e, u, es, clk, tab, rfl, (boO K b a o es e u).mono c hb, hq.same c, rfl, rfl, rfl⟩) fun g H H' n c m k => ⟨Same.trans c m.same, k⟩
theorem atSp (hb : (boO K b a o es e u).p H0) (hset : SetAt K H0 a S) (ok : SOk S) (hz : es.length ≤ 1000) (h0 : 0 ≤ now) (hat : AtOk S now ([], 0) es) : SpOkG K M (spWG K (preQA K)) (As.same H0) [.ref b, .int now] (fun g => (As.same H0).and ((quO K (g 0) a (g 1) now).and (tabA K (g 1) (tabD (queueAtM S es now))))) (fun g => .ref (g 0)) :=
  spWG_ok (fun H c => ⟨b, a, o, e, u, S, es, now, rfl, (boO K b a o es e u).mono c hb, hset.same c, ok, hz, h0, hat, rfl, rfl, rfl⟩) fun g H H' n c m k => ⟨Same.trans c m.same, k⟩
theorem shownSp (hS : SetAt K H0 a S) (ok : SOk S) (tok : TabOk tab) (g : Gh) : SpOk K M (spF K (preShown K)) ((As.same H0).and ((quO K (g 0) a (g 1) clk).and (tabA K (g 1) (tabD tab)))) [.ref (g 0)] (As.same H0) (shownD S clk tab) := fun H vs Q c t r q =>
  spF_ok (A := (As.same H0).and ((quO K (g 0) a (g 1) clk).and (tabA K (g 1) (tabD tab)))) (d := shownD S clk tab) (pre := preShown K) (fun H c => ⟨g 0, a, g 1, S, clk, tab, rfl, ⟨c.2.1, c.2.2⟩, hS.same c.1, ok, tok, rfl⟩) H vs Q c t r fun v H' k c r => q v H' k c.1 r
end
theorem atI_last {α : Type} {xs : List α} {x : α} (h : xs.getLast? = some x) : atI xs (-1) = some x := by
  cases xs with
  | nil => cases h
  | cons y ys =>
    unfold atI ixN
    rw [if_neg (by decide)]
    have hl : (y :: ys).length = ys.length + 1 := rfl
    rw [if_pos (by rw [hl]; omega)]
    rw [List.getLast?_eq_getElem?] at h
    show (y :: ys)[_]? = some x
    rw [← h]
    congr 1
    rw [hl]
    omega
end RQ
set_option Elab.async false
set_option linter.all false
set_option maxRecDepth 100000
set_option maxHeartbeats 4000000
namespace RQ
open PySem PySem.Spec PyProof.Rows L2 Dx
/-! ### entries under == -/
theorem ent_eqv {L : Log} (so : SSo L) {x y : Int × List Deed} (hx : x ∈ L) (hy : y ∈ L) (ok : OkD 3 (entL x)) : PyData.eqv (toPy (entL x)) (toPy (entL y)) = decide (x.1 = y.1) := by
  by_cases h : x.1 = y.1
  · rw [decide_eq_true h, ← so.inj hx hy h]
    exact ok.refl
  · rw [decide_eq_false h]
    show (PyData.eqvAll [PyData.int x.1, toPy (.lst (x.2.map deedD))] [PyData.int y.1, toPy (.lst (y.2.map deedD))]) = false
    rw [PyData.eqvAll]
    have : PyData.eqv (PyData.int x.1) (PyData.int y.1) = decide (x.1 = y.1) := rfl
    rw [this, decide_eq_false h] <;> rfl
theorem ents_nil (ts : Log) : PyData.eqv (toPy (.lst (ts.map entL))) (toPy (.lst [])) = decide (ts = []) := by
  cases ts <;> rfl
theorem getLast_get {α : Type} {xs : List α} {n : Nat} (h : xs.length = n + 1) : xs.getLast? = xs[n]? := by
  rw [List.getLast?_eq_getElem?, h, Nat.add_sub_cancel]
section
variable {S : Cfg} {ns : List Str} {puts : List Deed} {es ts : Log}
/-- the list without the last put in -/
theorem rest_eq (so : SSo ((0, puts) :: es)) (hp : ts.Perm es) {m : Nat} {tl : Int × List Deed} (hm : ts.length = m + 1) (ht : ts[m]? = some tl) : latesI puts ts m = (0, puts) :: es.filter fun x => !decide (x.1 = tl.1) := by
  have hso : SSo es := (List.pairwise_cons.mp so).2
  have hts : ts = ts.take m ++ [tl] := by
    have h1 : ts.take (m + 1) = ts.take m ++ [tl] := by rw [List.take_succ, ht] <;> rfl
    rw [← h1, ← hm, List.take_length]
  have hnd : ((ts.take m ++ [tl]).map (·.1)).Nodup := by rw [← hts]; exact ((hp.map (·.1)).nodup_iff).mpr hso.nodup
  have hne : ∀ u ∈ ts.take m, u.1 ≠ tl.1 := fun u hu z => by
    rw [List.map_append] at hnd
    exact (List.nodup_append.mp hnd).2.2 u.1 (List.mem_map.mpr ⟨u, hu, rfl⟩) tl.1 (by simp) z
  have hpf : (es.filter fun x => !decide (x.1 = tl.1)).Perm (ts.take m) := by
    refine (hp.symm.filter _).trans ?_
    conv => lhs; rw [hts]
    rw [List.filter_append]
    have e1 : (ts.take m).filter (fun x => !decide (x.1 = tl.1)) = ts.take m := List.filter_eq_self.mpr fun u hu => by simp [hne u hu]
    have e2 : ([tl] : Log).filter (fun x => !decide (x.1 = tl.1)) = [] := by simp
    rw [e1, e2, List.append_nil]
  have h0 : ∀ x ∈ es, (0 : Int) < x.1 := fun x hx => (List.pairwise_cons.mp so).1 x hx
  have hs2 : SSo ((0, puts) :: es.filter fun x => !decide (x.1 = tl.1)) := List.pairwise_cons.mpr ⟨fun x hx => h0 x (List.mem_filter.mp hx).1, hso.sublist List.filter_sublist⟩
  unfold latesI
  exact lates_eq (es := [(0, puts)]) hs2 hpf.symm
theorem seen_eq (so : SSo ((0, puts) :: es)) (hp : ts.Perm es) {m : Nat} {tl : Int × List Deed} (hm : ts.length = m + 1) (ht : ts[m]? = some tl) (hl : es[m]? = some tl) : seenD S puts ts (m + 1) = .lst (doR S tl.1 (runL S ((0, puts) :: es.take m) ([], 0)).1 tl.2) := by
  have hle : es.length = m + 1 := by rw [← hp.length_eq, hm]
  have hes : es = es.take m ++ [tl] := by
    have h1 : es.take (m + 1) = es.take m ++ [tl] := by rw [List.take_succ, hl] <;> rfl
    rw [← h1, ← hle, List.take_length]
  have hso : SSo es := (List.pairwise_cons.mp so).2
  have hlt : ∀ x ∈ es.take m, x.1 < tl.1 := fun x hx => by
    rw [hes] at hso
    exact (List.pairwise_append.mp hso).2.2 x hx tl (by simp)
  have e1 : (es.filter fun x => !decide (x.1 = tl.1)) = es.take m := by
    conv => lhs; rw [hes]
    rw [List.filter_append]
    have e1 : (es.take m).filter (fun x => !decide (x.1 = tl.1)) = es.take m := List.filter_eq_self.mpr fun u hu => by
      have := hlt u hu
      simp [show u.1 ≠ tl.1 by omega]
    have e2 : ([tl] : Log).filter (fun x => !decide (x.1 = tl.1)) = [] := by simp
    rw [e1, e2, List.append_nil]
  have e2 : latesI puts ts m = (0, puts) :: es.take m := by rw [rest_eq so hp hm ht, e1]
  have h0 : ∀ x ∈ es, (0 : Int) < x.1 := fun x hx => (List.pairwise_cons.mp so).1 x hx
  have e3 : placeM ((0, puts) :: es.take m) tl.1 = ((0, puts) :: es.take m : Log).length := by
    unfold placeM
    rw [List.filter_eq_self.mpr fun u hu => ?_]
    refine decide_eq_true ?_
    rcases List.mem_cons.mp hu with z | z
    · rw [z]
      exact Int.le_of_lt (h0 tl (by rw [hes]; simp))
    · exact Int.le_of_lt (hlt u z)
  show (match ts[m]? with
    | some p => D.lst (doR S p.1 (runL S ((latesI puts ts m).take (placeM (latesI puts ts m) p.1)) ([], 0)).1 p.2)
    | none => .non) = _
  rw [ht]
  show D.lst (doR S tl.1 (runL S ((latesI puts ts m).take (placeM (latesI puts ts m) tl.1)) ([], 0)).1 tl.2) = _
  rw [e2, e3, List.take_length]
theorem told_last {s1 : QSt} (hs1 : s1 = runL S [(0, puts)] ([], 0)) {t0 : D} {m : Nat} {el : Int × List Deed} (hm : es.length = m + 1) (hl : es[m]? = some el) : (t0 :: outs (toldF S) es s1).getLast? = some (.lst (doR S el.1 (runL S ((0, puts) :: es.take m) ([], 0)).1 el.2)) := by
  rw [getLast_get (n := m + 1) (by rw [List.length_cons, outs_len, hm])]
  show (outs (toldF S) es s1)[m]? = _
  rw [outs_get (toldF S) es s1 m el hl, told_fins, hs1] <;> rfl
end
section
variable {X : Cx} {M : AS} {δ : LS} {H0 : Hp} {pos p1 p2 p3 p4 p5 p6 ap1 ap2 : Pos} {ea eb : Expr}
/-- not a == b, or .. -/
theorem t_bks (T : Txt X.K X.mg) (hr : Room 2 X.A) {a b1 b2 q1 q2 e1 e2 u1 u2 : Addr} {S : Cfg} {es : Log} (h1 : (boO X.K b1 a q1 es e1 u1).p H0) (h2 : (boO X.K b2 a q2 es e2 u2).p H0) (hset : SetAt X.K H0 a S) (nd : (S.map (·.1)).Nodup) (hsh : SeqAt.shaped (toPy (logD es)) = true)
    (ha : PE X ea (tC X.K M (As.same H0) δ (As.same H0) (.ref b1))) (hb : PE X eb (tC X.K M (As.same H0) δ (As.same H0) (.ref b2))) (hm : behindInMarks .Eq eb = false := by first | rfl | exact nomark _) : PT X (.UnaryOp .Not (.Compare ea [.Eq] [eb] p1) p2) (tCT X.K M (As.same H0) δ (As.same H0) false) :=
  t_not (t_bookEq T hr ha hb (fun H e => ⟨a, q1, q2, e1, e2, u1, u2, S, es, (boO X.K b1 a q1 es e1 u1).mono e h1, (boO X.K b2 a q2 es e2 u2).mono e h2, hset.same e, nd, hsh⟩) hm)
theorem t_shd {x : D} (hr : Room 7 X.A) (hx : OkD 4 x) (ha : PE X ea (tC X.K M (As.same H0) δ (As.same H0) x)) (hb : PE X eb (tC X.K M (As.same H0) δ (As.same H0) x)) (hm : behindInMarks .NotEq eb = false := by first | rfl | exact nomark _) : PT X (.Compare ea [.NotEq] [eb] p1) (tCT X.K M (As.same H0) δ (As.same H0) false) :=
  t_is (t_neD (k := true) hr.units ha hb hx.plain hx.plain (hx.shaped (by decide)) (hx.shaped (by decide)) hx.refl) rfl
end
end RQ
set_option Elab.async false
set_option linter.all false
set_option maxRecDepth 100000
set_option maxHeartbeats 4000000
namespace RQ
open PySem PySem.Spec PyProof.Rows L2 Dx
section
variable {P : Program} {w : World} {K : PySem.W.Frag} {mg : Str → Option Value} {base : Heap}
/-- the slots once the entries are turned -/
def δT (p a b1 b2 : Addr) (names : List Str) (puts : List Deed) (now : Int) (es : Log) (told : D) (ts : Log) (seen : D) (x14 : Option D) : LS := [none, some (.ref p), none, none, some (.lst (names.map D.str)), some (.ref a), some (.lst (puts.map deedD)), some seen, none, some (.ref b1), some (.ref b2), some (.int now), some (.lst (es.map entL)), none, x14, none, some told, some (.lst (ts.map entL)), none, none, none, none]
/-- .. while the rest is told -/
def δR (p b2 b3 : Addr) (puts : List Deed) (es ts : Log) : LS := [none, some (.ref p), none, none, none, none, some (.lst (puts.map deedD)), none, none, none, some (.ref b2), none, some (.lst (es.map entL)), none, none, none, none, some (.lst (ts.map entL)), none, some (.ref b3), none, none]
theorem BkP.lk {H : Hp} {a b e u : Addr} {S : Cfg} {es es' : Log} {n : Nat} (h : BkP K a S b e u es es' n H) : ∀ x ∈ [b, e, u], Lk K H x := h.h.lk
set_option maxHeartbeats 40000000 in
theorem h_last (T : Txt K mg) (cdv : Value) (A : Around) (outer : List Env) (s : Shared) (Hs : Hp) (E : XK) (hr : Room 10 (A.deeper (envOfC "law" (defScope s_law) s.heap.objs.size (atG "law" K) cdv))) {M : AS} {p q : Addr} {cells : Cells} {H0 : Hp} {a b1 b2 e2 u2 : Addr} {S : Cfg} {names : List Str} {puts : List Deed} {es ts : Log} {now wn : Int}
    (hM : M.c p) (hM2 : M.c e2 ∧ M.c u2) (hnd : [p, q, b2, e2, u2].Nodup) (hbag : BagH K p q cells H0) (hset : SetAt K H0 a S) (okS : SOk S) (ndS : (S.map (·.1)).Nodup) (hW : WholeG S names puts es) (hlen : es.length ≤ 8) (hperm : ts.Perm es)
    (hkp : ∀ j, ts.length = j + 1 → BkP K a S b2 e2 u2 ((0, puts) :: es) (latesI puts ts j) (ts.length + 1) H0) {s1 : QSt} {t0 : D} (hs1 : s1 = runL S [(0, puts)] ([], 0)) :
    PSs (XL P w K mg base cdv A outer s Hs E) (turnBody.drop 16) (tP K M H0 (δT p a b1 b2 names puts now es (.lst (t0 :: outs (toldF S) es s1)) ts (seenD S puts ts ts.length) (some (.int wn))) (fun H δ => BagH K p q cells H ∧ Weak δ (δ0 p))) := by
  have hr1 : Room 1 (XL P w K mg base cdv A outer s Hs E).A := hr.mono (by decide)
  have hr7 : Room 7 (XL P w K mg base cdv A outer s Hs E).A := hr.mono (by decide)
  have nd := hnd
  simp only [List.nodup_cons, List.mem_cons, List.not_mem_nil, or_false, not_or, List.nodup_nil, not_false_eq_true, and_true] at nd
  obtain ⟨⟨npq, npb2, npe2, npu2⟩, ⟨nqb2, nqe2, nqu2⟩, ⟨nbe2, nbu2⟩, neu2⟩ := nd
  have hT : OkD 4 (.lst (ts.map entL)) := ok_lst (k := 3) fun d hd => by
    obtain ⟨x, hx, rfl⟩ := List.mem_map.mp hd
    exact (hW.entry x (List.mem_cons_of_mem _ (hperm.mem_iff.mp hx))).2
  refine p_if1 (k := !decide (ts = [])) (t_neD (x := .lst (ts.map entL)) (y := .lst []) hr.units (e_var 17) (e_lst a_nil) hT.plain rfl (hT.shaped (by decide)) rfl (ents_nil ts)) (fun hk H1 k1 t1 e1 => ?_) (fun hk H1 k1 t1 e1 => ⟨hbag.mv (Mv.of_same e1 : Mv [] H0 H1) (by simp) (by simp), by repeat (first | exact .nil | refine .yes ?_ | refine .no ?_)⟩)
  have hne : ts ≠ [] := by simpa using hk
  obtain ⟨m, hm⟩ : ∃ m, ts.length = m + 1 := ⟨ts.length - 1, by have := List.length_pos_iff.mpr hne; omega⟩
  have hme : es.length = m + 1 := by rw [← hperm.length_eq, hm]
  obtain ⟨tl, htl⟩ : ∃ x, ts[m]? = some x := ⟨_, List.getElem?_eq_getElem (by omega)⟩
  obtain ⟨el, hel⟩ : ∃ x, es[m]? = some x := ⟨_, List.getElem?_eq_getElem (by omega)⟩
  have htm : tl ∈ es := hperm.mem_iff.mp (List.mem_of_getElem? htl)
  have hem : el ∈ es := List.mem_of_getElem? hel
  have hso : SSo es := (List.pairwise_cons.mp hW.so).2
  have okT : OkD 3 (entL tl) := (hW.entry tl (List.mem_cons_of_mem _ htm)).2
  have okE : OkD 3 (entL el) := (hW.entry el (List.mem_cons_of_mem _ hem)).2
  have hatl : atI (ts.map entL) (-1) = some (entL tl) := atI_last (by rw [List.getLast?_map, getLast_get hm, htl] <;> rfl)
  have hate : atI (es.map entL) (-1) = some (entL el) := atI_last (by rw [List.getLast?_map, getLast_get hme, hel] <;> rfl)
  have hkp0 := hkp m hm
  rw [hm] at hkp0
  -- what late returned last
  refine p_ifF (B := As.same H1) (t_is (t_and (k := PyData.eqv (toPy (entL tl)) (toPy (entL el))) (j := false) (t_eqD hr.units (e_from (e_ixL (e_var 17) (e_neg e_int) hatl) fun H c => c) (e_ixL (e_var 12) (e_neg e_int) hate) okT.plain okE.plain (okT.shaped (by decide)) (okE.shaped (by decide)) rfl) fun hk => ?ne) (Bool.and_false _)) fun H2 k2 t2 e2' => ?_
  case ne =>
    rw [ent_eqv hso htm hem okT] at hk
    have hte := hso.inj htm hem (of_decide_eq_true hk)
    have okX := (hW.next (i := m) hel).2.1
    exact t_shd hr7 (okX.mono (by decide)) (e_is (e_var 7) (by rw [hm, seen_eq hW.so hperm hm htl (by rw [hel, hte]), hte])) (e_ixL (e_var 16) (e_neg e_int) (atI_last (told_last hs1 hme hel)))
  have e02 : Same H0 H2 := e1.trans e2'
  have hbag2 := hbag.mv (Mv.of_same e02 : Mv [] H0 H2) (by simp) (by simp)
  have hset2 := set_mv hset (Mv.of_same e02 : Mv [] H0 H2) (by simp)
  have hkp2 := hkp0.mv (Mv.of_same e02 : Mv [] H0 H2) (by simp) (by simp) (by simp) (by simp)
  -- the rest
  obtain ⟨dxS, tS, eS1, eS2⟩ := id hset2
  refine p_own [3, 4] (f_set 19 sc_law.nd (g_makeF (B := As.same H2) (Gi := fun o g' => (As.same H2).and (bookN K a o (g' 0) (g' 1) (g' 2) (g' 3))) (mk_Book T) (h_Book_init T) (hr.mono (by decide)) (g_Book T) (a_one (e_var 5)) fun o no => spWG_ok (fun H c => ⟨o, a, dxS, .ref tS, rfl, c.2, c.1 _ _ eS1, rfl, rfl, rfl⟩) fun g' H H' n c m k => ⟨(As.same H2).frame m (fun x hx l => absurd ((List.mem_singleton.mp hx) ▸ l) no) c.1, k⟩) (fun g => rfl)) (fun g H c j hj => ?_) (fun g H3 n3 k3 c3 t3 => ?_)
  · simp only [List.mem_cons, List.not_mem_nil, or_false] at hj
    rcases hj with e | e <;> subst e
    · exact (earlA K (g 3) 0 none).trk c.2.2.2.2.1 rfl
    · exact (lstA K (g 4) []).trk c.2.2.2.2.2.1 rfl
  have c3e : Same H2 H3 := c3.1
  have hkN : BkH K a S (g 0) (g 3) (g 4) [] 0 H3 := bookN_h c3.2
  have hM3 : (M.owns ([3, 4].map g)).c p := .inl hM
  have hM23 : (M.owns ([3, 4].map g)).c e2 ∧ (M.owns ([3, 4].map g)).c u2 := ⟨.inl hM2.1, .inl hM2.2⟩
  have hM33 : (M.owns ([3, 4].map g)).c (g 3) ∧ (M.owns ([3, 4].map g)).c (g 4) := ⟨.inr (by simp), .inr (by simp)⟩
  have nb3e : g 3 ≠ g 0 := ins_earl_ne c3.2.1 c3.2.2.2.2.1
  have nb3u : g 4 ≠ g 0 := ins_lst_ne c3.2.1 c3.2.2.2.2.2.1
  have ne3u : g 3 ≠ g 4 := c3.2.2.2.2.2.2
  have hsb : ∃ sb, (bagA K p q cells sb).p H2 := let ⟨sb, _, h⟩ := hbag2; ⟨sb, h⟩
  obtain ⟨sb, hsb⟩ := hsb
  have np3 : ∀ i, p ≠ g i := fun i z => (bagA K p q cells sb).trk hsb (.inl z.symm) (n3 i)
  have nq3 : ∀ i, q ≠ g i := fun i z => (bagA K p q cells sb).trk hsb (.inr z.symm) (n3 i)
  have lkN : ∀ {x : Addr}, Lk K H2 x → ∀ i, x ≠ g i := fun {x} h i z => by
    rcases h with ⟨xs, e⟩ | ⟨dx, fs, e, _⟩ <;> rw [z, n3 i] at e <;> cases e
  have nb23 : ∀ i, b2 ≠ g i := lkN (hkp2.lk b2 (by simp))
  have ne23 : ∀ i, e2 ≠ g i := lkN (hkp2.lk e2 (by simp))
  have nu23 : ∀ i, u2 ≠ g i := lkN (hkp2.lk u2 (by simp))
  have np3 : p ∉ [g 0, g 3, g 4] := by simp [np3]
  have nq3 : q ∉ [g 0, g 3, g 4] := by simp [nq3]
  have nb23 : b2 ∉ [g 0, g 3, g 4] := by simp [nb23]
  have ne23 : e2 ∉ [g 0, g 3, g 4] := by simp [ne23]
  have nu23 : u2 ∉ [g 0, g 3, g 4] := by simp [nu23]
  have hbag3 := hbag2.mv (Mv.of_same c3e : Mv [] H2 H3) (by simp) (by simp)
  have hset3 := set_mv hset2 (Mv.of_same c3e : Mv [] H2 H3) (by simp)
  have hkp3 := hkp2.mv (Mv.of_same c3e : Mv [] H2 H3) (by simp) (by simp) (by simp) (by simp)
  clear c3 hsb lkN n3 eS1 eS2
  generalize M.owns ([3, 4].map g) = M3 at *
  generalize g 0 = b3 at *
  generalize g 3 = e3 at *
  generalize g 4 = u3 at *
  -- its log
  obtain ⟨fs, hfs⟩ : ∃ fs, fs = es.filter fun x => !decide (x.1 = tl.1) := ⟨_, rfl⟩
  have hl : latesI puts ts m = (0, puts) :: fs := by rw [hfs]; exact rest_eq hW.so hperm hm htl
  have hWf : WholeG S names puts fs := by
    rw [hfs]
    exact hW.sub (hso.sublist List.filter_sublist) fun x hx => (List.mem_filter.mp hx).1
  have hfl : fs.length ≤ 8 := by
    rw [hfs]
    exact Nat.le_trans (List.length_filter_le _ _) hlen
  rw [hl] at hkp3
  have hL : ∀ i b, ((0, puts) :: fs : Log)[i]? = some b → EntOk S (runL S (((0, puts) :: fs : Log).take i) ([], 0)) b ∧ TabOk (runL S (((0, puts) :: fs : Log).take i) ([], 0)).1 := fun i b hb => by
    cases i with
    | zero =>
      cases hb
      exact ⟨(puts_ok (S := S) hW.names hW.pk).1, TabOk.nil⟩
    | succ i =>
      obtain ⟨h1, h2, h3⟩ := hWf.next (i := i) hb
      exact ⟨h1, h3⟩
  have hitems : [entL (0, puts)] ++ (((es.map entL).filter fun d => !PyData.eqv (toPy d) (toPy (entL tl))).map id) = ((0, puts) :: fs : Log).map entL := by
    rw [List.map_id, hfs, List.filter_map, List.map_cons]
    refine congrArg (fun l => entL (0, puts) :: List.map entL l) (List.filter_congr fun x hx => ?_)
    show (!PyData.eqv (toPy (entL x)) (toPy (entL tl))) = _
    rw [ent_eqv hso hx htm (hW.entry x (List.mem_cons_of_mem _ hx)).2]
  refine p_cons (φ1 := fun H δ => δ = δR p b2 b3 puts es ts ∧ BagH K p q cells H ∧ SetAt K H a S ∧ BkP K a S b2 e2 u2 ((0, puts) :: es) ((0, puts) :: fs) (m + 1 + 1) H ∧ BkH K a S b3 e3 u3 ((0, puts) :: fs) (fs.length + 1) H)
    (p_weakS (δ' := δR p b2 b3 puts es ts) (by repeat (first | exact .nil | refine .yes ?_ | refine .no ?_)) (p_for entL ((0, puts) :: fs) (fun i H δ => δ = δR p b2 b3 puts es ts ∧ BagH K p q cells H ∧ SetAt K H a S ∧ BkP K a S b2 e2 u2 ((0, puts) :: es) ((0, puts) :: fs) (m + 1 + 1) H ∧ BkH K a S b3 e3 u3 (((0, puts) :: fs : Log).take i) i H) (js := [14, 15]) PassesOwn.never rfl
      (i_list (e_is (e_cat (e_lst (a_one (e_tup (a_cons e_int (a_one (e_var 6)))))) (e_lcP (own := [("_law_entry", 18)]) (g := gName 18) (js := [18]) (f := fOne 18) (items := es.map entL) (fun d => !PyData.eqv (toPy d) (toPy (entL tl))) id rfl sc_law.nd (blkOk_by (N := NW) (sc := defScope s_law) (by decide +kernel)) (i_list (e_var 12)) (fun _ _ => trivial) (fun _ _ _ _ _ => pg_name (i := 18) sc_law.nd rfl (Or.inl rfl)) (tg_name 18) (fun _ h => h) ?z1 (fun M' _ _ d hd => ?tt)) ?z2) (congrArg D.lst hitems)))
      (fun H4 k4 t4 e4 => ⟨rfl, hbag3.mv (Mv.of_same e4 : Mv [] H3 H4) (by simp) (by simp), set_mv hset3 (Mv.of_same e4 : Mv [] H3 H4) (by simp), hkp3.mv (Mv.of_same e4 : Mv [] H3 H4) (by simp) (by simp) (by simp) (by simp), hkN.mv (Mv.of_same e4 : Mv [] H3 H4) (by simp) (by simp) (by simp) (by simp)⟩)
      (pg_tup rfl (pgs_cons (pg_name (i := 14) sc_law.nd rfl (Or.inl rfl)) (pgs_cons (pg_name (i := 15) sc_law.nd rfl (Or.inl rfl)) pgs_nil))) (tg_pair 14 15)
      (fun i b H4 δ4 hb k4 ⟨e0, hbag4, hset4, hkp4, hkN4⟩ => ⟨((δR p b2 b3 puts es ts).set 14 (some (.int b.1))).set 15 (some (.lst (b.2.map deedD))), by rw [e0] <;> rfl, fun H5 e5 k5 t5 => ?turn⟩) fun H4 δ4 k4 iv => by
        have e : ((0, puts) :: fs : Log).take ((0, puts) :: fs : Log).length = (0, puts) :: fs := List.take_length
        rw [e] at iv
        exact iv)) fun H4 δ4 k4 t4 ⟨e4, hbag4, hset4, hkp4, hkN4⟩ => ?_
  case z1 =>
    rw [List.length_map]
    exact Nat.lt_of_le_of_lt hlen (by decide)
  case z2 =>
    rw [List.length_map]
    have := List.length_filter_le (fun d => !PyData.eqv (toPy d) (toPy (entL tl))) (es.map entL)
    rw [List.length_map] at this
    exact Nat.le_trans (Nat.add_le_add_left (Nat.le_trans this hlen) 1) (by decide)
  case tt =>
    obtain ⟨x, hx, rfl⟩ := List.mem_map.mp hd
    have okx : OkD 3 (entL x) := (hW.entry x (List.mem_cons_of_mem _ hx)).2
    exact ⟨_, rfl, fun _ _ _ _ _ => ts_one (t_neD hr.units (e_var 18) (e_ixL (e_var 17) (e_neg e_int) hatl) okx.plain okT.plain (okx.shaped (by decide)) (okT.shaped (by decide)) rfl), fun _ _ _ _ _ _ => e_var 18⟩
  case turn =>
    have hbag5 := hbag4.mv (Mv.of_same e5 : Mv [] H4 H5) (by simp) (by simp)
    have hset5 := set_mv hset4 (Mv.of_same e5 : Mv [] H4 H5) (by simp)
    have hkp5 := hkp4.mv (Mv.of_same e5 : Mv [] H4 H5) (by simp) (by simp) (by simp) (by simp)
    have hkN5 := hkN4.mv (Mv.of_same e5 : Mv [] H4 H5) (by simp) (by simp) (by simp) (by simp)
    obtain ⟨o, t, last, hA⟩ := hkN5
    obtain ⟨w1, w2⟩ := hL i b hb
    have hil := (List.getElem?_eq_some_iff.mp hb).1
    rw [List.length_cons] at hil
    refine p_all (s_exprG (g_meth (cl_Book T) (me_Book_do T) (h_Book_do T) hr (e_var 19) (fun H c => bo_nolk ((boO K b3 a o _ e3 u3).mono c hA.1)) (a_cons (e_var 14) (a_one (e_var 15))) (doSp (now := b.1) (deeds := b.2) hA hset5 okS w1 w2 hM33.1 hM33.2 ne3u (by omega) (by rw [List.length_take]; omega)))) fun g6 H6 n6 k6 t6 c6 => ?_
    have lk3 := boA_lk hA
    have et : ((0, puts) :: fs : Log).take (i + 1) = ((0, puts) :: fs : Log).take i ++ [b] := by rw [List.take_succ, hb] <;> rfl
    refine p_nilW (by repeat (first | exact .nil | refine .yes ?_ | refine .no ?_)) ⟨rfl, hbag5.mv c6.1 np3 nq3, set_mv hset5 c6.1 lk3, hkp5.mv c6.1 lk3 nb23 ne23 nu23, by rw [et]; exact (do_after hA c6).h⟩
  subst e4
  -- back
  obtain ⟨o, t, o', t', hA, hQ⟩ := hkp4
  have lkA := boA_lk hA
  refine p_nx (B := (As.mv [b2, e2, u2] H4).and (boO K b2 a o' ((0, puts) :: fs) e2 u2)) (s_expr (c_meth0 (cl_Book T) (me_Book_back T) (h_back T) (hr.mono (by decide)) (e_var 10) (fun H c => bo_nolk ((boO K b2 a o _ e2 u2).mono c hA.1)) (spW_ok (fun H c => by
    have h := (boA K b2 a o t e2 u2 ((0, puts) :: es) (runL S ((0, puts) :: es) ([], 0)).2 (runL S ((0, puts) :: es) ([], 0)).1 (m + 1 + 1) (some (.tup [logD ((0, puts) :: fs), .ref o']))).mono c hA
    exact ⟨b2, a, o, e2, u2, o', (0, puts) :: es, (0, puts) :: fs, m + 1, rfl, h.1, h.2.1.1, h.2.1.2, hM23.1, hM23.2, neu2, rfl, rfl, rfl⟩) fun H H' c m k => ⟨(Mv.of_same c).trans m, k⟩))) fun H5 k5 t5 c5 => ?_
  have hbag5 := hbag4.mv c5.1 (by simp [npb2, npe2, npu2]) (by simp [nqb2, nqe2, nqu2])
  have hset5 := set_mv hset4 c5.1 lkA
  have hQ5 := qu_mv (a := a) hQ c5.1 lkA
  have n3 : ∀ x ∈ [b3, e3, u3], x ∉ [b2, e2, u2] := fun x hx z => by
    simp only [List.mem_cons, List.not_mem_nil, or_false] at z
    rcases z with z | z | z <;> subst z
    · exact nb23 hx
    · exact ne23 hx
    · exact nu23 hx
  obtain ⟨o3, t3', last3, hA3⟩ := hkN4.mv c5.1 lkA (n3 b3 (by simp)) (n3 e3 (by simp)) (n3 u3 (by simp))
  have hst := hWf.log.2
  -- the two are equal
  refine p_ifF (B := As.same H5) (t_is (t_or (k := false) (j := false) (t_bks T (hr.mono (by decide)) c5.2 hA3.1 hset5 ndS (hWf.logd.1.shaped (by decide)) (e_var 10) (e_var 19)) fun _ => t_shd hr7 (shown_ok hst.ts)
      (c_callG1 (h_shown T) hr7 (g_law_shown T) (g_meth0 (cl_Book T) (me_Book_queue T) (h_Book_queue T) (hr.mono (by decide)) (e_var 10) (fun H c => bo_nolk ((boO K b2 a o' _ e2 u2).mono c c5.2)) (queueSp c5.2 hQ5)) (fun g => shownSp hset5 okS hst.ok g))
      (c_callG1 (h_shown T) hr7 (g_law_shown T) (g_meth0 (cl_Book T) (me_Book_queue T) (h_Book_queue T) (hr.mono (by decide)) (e_var 19) (fun H c => bo_nolk ((boO K b3 a o3 _ e3 u3).mono c hA3.1)) (queueSp hA3.1 ⟨hA3.2.2.1, hA3.2.2.2⟩)) (fun g => shownSp hset5 okS hst.ok g))) rfl) fun H6 k6 t6 e6 => ?_
  exact p_nil ⟨hbag5.mv (Mv.of_same e6 : Mv [] H5 H6) (by simp) (by simp), by repeat (first | exact .nil | refine .yes ?_ | refine .no ?_)⟩
end
end RQ
set_option Elab.async false
set_option linter.all false
set_option maxRecDepth 100000
set_option maxHeartbeats 4000000
namespace RQ
open PySem PySem.Spec PyProof.Rows L2 Dx
section
variable {P : Program} {w : World} {K : PySem.W.Frag} {mg : Str → Option Value} {base : Heap}
set_option maxHeartbeats 40000000 in
theorem h_end (T : Txt K mg) (cdv : Value) (A : Around) (outer : List Env) (s : Shared) (Hs : Hp) (E : XK) (hr : Room 10 (A.deeper (envOfC "law" (defScope s_law) s.heap.objs.size (atG "law" K) cdv))) {M : AS} {p q : Addr} {cells : Cells} {H0 : Hp} {a b1 e1 u1 b2 e2 u2 : Addr} {S : Cfg} {names : List Str} {puts : List Deed} {es ts : Log} {now : Int}
    (hM : M.c p) (hM2 : M.c e2 ∧ M.c u2) (hnd : [p, q, b1, e1, u1, b2, e2, u2].Nodup) (hbag : BagH K p q cells H0) (hset : SetAt K H0 a S) (okS : SOk S) (ndS : (S.map (·.1)).Nodup) (hW : WholeG S names puts es) (hlen : es.length ≤ 8) (hnow : 1 ≤ now ∧ now ≤ 33) (hperm : ts.Perm es)
    (hk1 : BkH K a S b1 e1 u1 ((0, puts) :: es) (es.length + 1) H0) (hk2 : BkH K a S b2 e2 u2 [(0, puts)] 1 H0) {s1 : QSt} {t0 : D} (hs1 : s1 = runL S [(0, puts)] ([], 0)) :
    PSs (XL P w K mg base cdv A outer s Hs E) (turnBody.drop 12) (tP K M H0 (δT p a b1 b2 names puts now es (.lst (t0 :: outs (toldF S) es s1)) ts .non none) (fun H δ => BagH K p q cells H ∧ Weak δ (δ0 p))) := by
  have hr1 : Room 1 (XL P w K mg base cdv A outer s Hs E).A := hr.mono (by decide)
  have hr7 : Room 7 (XL P w K mg base cdv A outer s Hs E).A := hr.mono (by decide)
  have nd := hnd
  simp only [List.nodup_cons, List.mem_cons, List.not_mem_nil, or_false, not_or, List.nodup_nil, not_false_eq_true, and_true] at nd
  obtain ⟨⟨npq, npb1, npe1, npu1, npb2, npe2, npu2⟩, ⟨nqb1, nqe1, nqu1, nqb2, nqe2, nqu2⟩, ⟨nbe1, nbu1, nbb, nb1e2, nb1u2⟩, ⟨neu1, ne1b2, ne1e2, ne1u2⟩, ⟨nu1b2, nu1e2, nu1u2⟩, ⟨nbe2, nbu2⟩, neu2⟩ := nd
  have htl : ts.length ≤ 8 := by rw [hperm.length_eq]; exact hlen
  obtain ⟨told, htold⟩ : ∃ x, x = D.lst (t0 :: outs (toldF S) es s1) := ⟨_, rfl⟩
  rw [← htold]
  -- one by one
  refine p_cons (φ1 := fun H δ => δ = δT p a b1 b2 names puts now es told ts (seenD S puts ts ts.length) none ∧ BagH K p q cells H ∧ SetAt K H a S ∧ BkH K a S b1 e1 u1 ((0, puts) :: es) (es.length + 1) H ∧ BkH K a S b2 e2 u2 (latesI puts ts ts.length) (ts.length + 1) H ∧ ∀ j, ts.length = j + 1 → BkP K a S b2 e2 u2 (latesI puts ts ts.length) (latesI puts ts j) (ts.length + 1) H)
    (p_for entL ts (fun i H δ => δ = δT p a b1 b2 names puts now es told ts (seenD S puts ts i) none ∧ BagH K p q cells H ∧ SetAt K H a S ∧ BkH K a S b1 e1 u1 ((0, puts) :: es) (es.length + 1) H ∧ BkH K a S b2 e2 u2 (latesI puts ts i) (i + 1) H ∧ ∀ j, i = j + 1 → BkP K a S b2 e2 u2 (latesI puts ts i) (latesI puts ts j) (i + 1) H) (js := [14, 15]) PassesOwn.never rfl (i_list (e_var 17))
      (fun H1 k1 t1 e1 => ⟨rfl, hbag.mv (Mv.of_same e1 : Mv [] H0 H1) (by simp) (by simp), set_mv hset (Mv.of_same e1 : Mv [] H0 H1) (by simp), hk1.mv (Mv.of_same e1 : Mv [] H0 H1) (by simp) (by simp) (by simp) (by simp), hk2.mv (Mv.of_same e1 : Mv [] H0 H1) (by simp) (by simp) (by simp) (by simp), fun j hj => by cases hj⟩)
      (pg_tup rfl (pgs_cons (pg_name (i := 14) sc_law.nd rfl (Or.inl rfl)) (pgs_cons (pg_name (i := 15) sc_law.nd rfl (Or.inl rfl)) pgs_nil))) (tg_pair 14 15)
      (fun i b H1 δ1 hb k1 ⟨e0, f1, f2, f3, f4, _⟩ => ⟨((δT p a b1 b2 names puts now es told ts (seenD S puts ts i) none).set 14 (some (.int b.1))).set 15 (some (.lst (b.2.map deedD))), by rw [e0] <;> rfl, fun H2 e2' k2 t2 => ?turn⟩) fun H1 δ1 k1 iv => iv) fun H1 δ1 k1 t1 ⟨ed, hbag1, hset1, hk11, hk21, hkp1⟩ => ?_
  case turn =>
    have g1 := f1.mv (Mv.of_same e2' : Mv [] H1 H2) (by simp) (by simp)
    have g2 := set_mv f2 (Mv.of_same e2' : Mv [] H1 H2) (by simp)
    have g3 := f3.mv (Mv.of_same e2' : Mv [] H1 H2) (by simp) (by simp) (by simp) (by simp)
    have g4 := f4.mv (Mv.of_same e2' : Mv [] H1 H2) (by simp) (by simp) (by simp) (by simp)
    obtain ⟨o, t, last, hA⟩ := g4
    have hil := (List.getElem?_eq_some_iff.mp hb).1
    obtain ⟨fs, l1, l2, l3⟩ := hW.lates hperm (i + 1)
    have hlog := l3.log.1
    rw [← l1, latesI_succ hb] at hlog
    have hlen' : (latesI puts ts i).length < 100 := by
      obtain ⟨fs, l1, l2, _⟩ := hW.lates hperm i
      rw [l1, List.length_cons, l2.length_eq, List.length_take]
      omega
    have es1 : seenD S puts ts (i + 1) = .lst (doR S b.1 (runL S ((latesI puts ts i).take (placeM (latesI puts ts i) b.1)) ([], 0)).1 b.2) := by
      show (match ts[i]? with
        | some p => D.lst (doR S p.1 (runL S ((latesI puts ts i).take (placeM (latesI puts ts i) p.1)) ([], 0)).1 p.2)
        | none => .non) = _
      rw [hb]
    refine p_cons (φ1 := fun H δ => δ = (((δT p a b1 b2 names puts now es told ts (seenD S puts ts i) none).set 14 (some (.int b.1))).set 15 (some (.lst (b.2.map deedD)))).set 7 (some (seenD S puts ts (i + 1))) ∧ BagH K p q cells H ∧ SetAt K H a S ∧ BkH K a S b1 e1 u1 ((0, puts) :: es) (es.length + 1) H ∧ BkH K a S b2 e2 u2 (latesI puts ts (i + 1)) (i + 1 + 1) H ∧ BkP K a S b2 e2 u2 (latesI puts ts (i + 1)) (latesI puts ts i) (i + 1 + 1) H)
      (p_set 7 sc_law.nd (pe_ofG (g_meth (cl_Book T) (me_Book_late T) (h_late T) hr (e_var 10) (fun H c => bo_nolk ((boO K b2 a o _ e2 u2).mono c hA.1)) (a_cons (e_var 14) (a_one (e_var 15))) (lateSp (now := b.1) (deeds := b.2) hA g2 okS hlog hM2.1 hM2.2 neu2 (by omega) hlen'))) fun H3 d k3 ⟨gg, n3, c3, ed⟩ => ?_) fun H3 δ3 k3 t3 ⟨e3, f⟩ => ?_
    · have lk := boA_lk hA
      have hP := late_after hA c3
      rw [← latesI_succ hb] at hP
      exact ⟨by rw [es1, ed] <;> rfl, g1.mv c3.1 (by simp [npb2, npe2, npu2]) (by simp [nqb2, nqe2, nqu2]), set_mv g2 c3.1 lk, g3.mv c3.1 lk (by simp [nbb, nb1e2, nb1u2]) (by simp [ne1b2, ne1e2, ne1u2]) (by simp [nu1b2, nu1e2, nu1u2]), hP.h, hP⟩
    · subst e3
      exact p_nilW (by repeat (first | exact .nil | refine .yes ?_ | refine .no ?_)) ⟨rfl, f.1, f.2.1, f.2.2.1, f.2.2.2.1, fun j hj => by cases hj; exact f.2.2.2.2⟩
  subst ed
  have hall := lates_all (ts := ts) hW.so hperm
  rw [hall] at hkp1 hk21
  have hst := hW.log.2
  -- the two are equal
  obtain ⟨o1, x1, y1, hA1⟩ := id hk11
  obtain ⟨o2, x2, y2, hA2⟩ := id hk21
  have okLog : OkD 4 (logL ((0, puts) :: es)) := hW.logd.2
  have hlz : ((0, puts) :: es : Log).length ≤ 1000 := by rw [List.length_cons]; omega
  refine p_ifF (B := As.same H1) (t_is ((w_or (A := As.same H1) (B := As.same H1) (k := false) (j := false) (t_bks T (hr.mono (by decide)) hA2.1 hA1.1 hset1 ndS (hW.logd.1.shaped (by decide)) (e_var 10) (e_var 9)) (fun _ => w_or (B := As.same H1) (k := false) (j := false) (t_shd hr7 (shown_ok hst.ts)
      (c_callG1 (h_shown T) hr7 (g_law_shown T) (g_meth0 (cl_Book T) (me_Book_queue T) (h_Book_queue T) (hr.mono (by decide)) (e_var 10) (fun H c => bo_nolk ((boO K b2 a o2 _ e2 u2).mono c hA2.1)) (queueSp hA2.1 ⟨hA2.2.2.1, hA2.2.2.2⟩)) (fun g => shownSp hset1 okS hst.ok g))
      (c_callG1 (h_shown T) hr7 (g_law_shown T) (g_meth0 (cl_Book T) (me_Book_queue T) (h_Book_queue T) (hr.mono (by decide)) (e_var 9) (fun H c => bo_nolk ((boO K b1 a o1 _ e1 u1).mono c hA1.1)) (queueSp hA1.1 ⟨hA1.2.2.1, hA1.2.2.2⟩)) (fun g => shownSp hset1 okS hst.ok g)))
      (fun _ => w_or1 (t_shd hr7 okLog
        (c_meth0 (cl_Book T) (me_Book_log T) (h_log T) hr1 (e_var 10) (fun H c => bo_nolk ((boO K b2 a o2 _ e2 u2).mono c hA2.1)) (spF_ok fun H c => ⟨b2, a, o2, e2, u2, _, rfl, (boO K b2 a o2 _ e2 u2).mono c hA2.1, hlz, rfl⟩))
        (c_meth0 (cl_Book T) (me_Book_log T) (h_log T) hr1 (e_var 9) (fun H c => bo_nolk ((boO K b1 a o1 _ e1 u1).mono c hA1.1)) (spF_ok fun H c => ⟨b1, a, o1, e1, u1, _, rfl, (boO K b1 a o1 _ e1 u1).mono c hA1.1, hlz, rfl⟩)))) fun h _ _ => by cases h) fun h _ _ => by cases h).pt) rfl) fun H2 k2 t2 e2' => ?_
  have hbag2 := hbag1.mv (Mv.of_same e2' : Mv [] H1 H2) (by simp) (by simp)
  have hset2 := set_mv hset1 (Mv.of_same e2' : Mv [] H1 H2) (by simp)
  have hk12 := hk11.mv (Mv.of_same e2' : Mv [] H1 H2) (by simp) (by simp) (by simp) (by simp)
  have hk22 := hk21.mv (Mv.of_same e2' : Mv [] H1 H2) (by simp) (by simp) (by simp) (by simp)
  have hkp2 := fun j hj => (hkp1 j hj).mv (Mv.of_same e2' : Mv [] H1 H2) (by simp) (by simp) (by simp) (by simp)
  clear hA1 hA2 hk11 hk21 hkp1 hset1 hbag1
  -- a time
  obtain ⟨sb, okb, hb2⟩ := hbag2
  obtain ⟨d1, d2, d3⟩ := drawM_ok (many := now + 9) okb (by omega)
  refine p_nx (s_set 14 sc_law.nd (e_drawH (many := now + 9) T hr1 hM npq okb hb2 (by omega) (by omega) (fun A => e_var 1) (e_add (e_var 11) e_int))) fun H3 k3 t3 c3 => ?_
  have lkp : ∀ x ∈ [p], Lk K H2 x := fun x hx => (List.mem_singleton.mp hx) ▸ lst_lk hb2.1
  have hset3 := set_mv hset2 c3.1 lkp
  have hk13 := hk12.mv c3.1 lkp (by simpa using Ne.symm npb1) (by simpa using Ne.symm npe1) (by simpa using Ne.symm npu1)
  have hk23 := hk22.mv c3.1 lkp (by simpa using Ne.symm npb2) (by simpa using Ne.symm npe2) (by simpa using Ne.symm npu2)
  have hkp3 := fun j hj => (hkp2 j hj).mv c3.1 lkp (by simpa using Ne.symm npb2) (by simpa using Ne.symm npe2) (by simpa using Ne.symm npu2)
  have hb3 := c3.2
  clear c3 hk12 hk22 hkp2 hset2 hb2
  generalize (drawM cells sb (now + 9)).2 = sb' at *
  generalize (drawM cells sb (now + 9)).1 = wn at *
  obtain ⟨a1, a2, a3⟩ := hW.at d2
  obtain ⟨o1, x1, y1, hA1⟩ := id hk13
  obtain ⟨o2, x2, y2, hA2⟩ := id hk23
  refine p_ifF (B := As.same H3) (t_shd hr7 (shown_ok (clk := wn) a2)
      (c_callG1 (h_shown T) hr7 (g_law_shown T) (g_meth (cl_Book T) (me_Book_queue_at T) (h_queue_at T) hr (e_var 10) (fun H c => bo_nolk ((boO K b2 a o2 _ e2 u2).mono c hA2.1)) (a_one (e_var 14)) (atSp hA2.1 hset3 okS hlz d2 a1)) (fun g => shownSp hset3 okS a3 g))
      (c_callG1 (h_shown T) hr7 (g_law_shown T) (g_meth (cl_Book T) (me_Book_queue_at T) (h_queue_at T) hr (e_var 9) (fun H c => bo_nolk ((boO K b1 a o1 _ e1 u1).mono c hA1.1)) (a_one (e_var 14)) (atSp hA1.1 hset3 okS hlz d2 a1)) (fun g => shownSp hset3 okS a3 g))) fun H4 k4 t4 e4 => ?_
  subst htold
  exact h_last (wn := wn) T cdv A outer s Hs E hr hM hM2 (by
    simp only [List.nodup_cons, List.mem_cons, List.not_mem_nil, or_false, not_or, List.nodup_nil, not_false_eq_true, and_true]
    exact ⟨⟨npq, npb2, npe2, npu2⟩, ⟨nqb2, nqe2, nqu2⟩, ⟨nbe2, nbu2⟩, neu2⟩) ⟨sb', d1, (bagA K p q cells sb').mono e4 hb3⟩ (set_mv hset3 (Mv.of_same e4 : Mv [] H3 H4) (by simp)) okS ndS hW hlen hperm (fun j hj => by
      have h := (hkp3 j hj).mv (Mv.of_same e4 : Mv [] H3 H4) (by simp) (by simp) (by simp) (by simp)
      exact h) hs1
end
end RQ
set_option Elab.async false
set_option linter.all false
set_option maxRecDepth 100000
set_option maxHeartbeats 4000000
namespace RQ
open PySem PySem.Spec PyProof.Rows L2 Dx
section
variable {P : Program} {w : World} {K : PySem.W.Frag} {mg : Str → Option Value} {base : Heap}
/-- the slots once the entries are drawn -/
def δF (p a b1 b2 : Addr) (names : List Str) (puts : List Deed) (now : Int) (es : Log) : LS := [none, some (.ref p), none, none, some (.lst (names.map D.str)), some (.ref a), some (.lst (puts.map deedD)), some .non, none, some (.ref b1), some (.ref b2), some (.int now), some (.lst (es.map entL)), none, none, none, none, none, none, none, none, none]
/-- the law's two books and their setting -/
structure Bks (K : PySem.W.Frag) (a : Addr) (S : Cfg) (b1 e1 u1 b2 e2 u2 : Addr) (x1 x2 : Hp → Prop) (H : Hp) : Prop where
  set : SetAt K H a S
  k1 : x1 H
  k2 : x2 H
set_option maxHeartbeats 40000000 in
theorem h_tail (T : Txt K mg) (cdv : Value) (A : Around) (outer : List Env) (s : Shared) (Hs : Hp) (E : XK) (hr : Room 10 (A.deeper (envOfC "law" (defScope s_law) s.heap.objs.size (atG "law" K) cdv))) {M : AS} {p q : Addr} {cells : Cells} {H0 : Hp} {a b1 e1 u1 b2 e2 u2 : Addr} {S : Cfg} {names : List Str} {puts : List Deed} {es : Log} {now : Int}
    (hM : M.c p) (hM1 : M.c e1 ∧ M.c u1) (hM2 : M.c e2 ∧ M.c u2) (hnd : [p, q, b1, e1, u1, b2, e2, u2].Nodup) (hbag : BagH K p q cells H0) (hset : SetAt K H0 a S) (okS : SOk S) (ndS : (S.map (·.1)).Nodup) (hk1 : BkH K a S b1 e1 u1 [] 0 H0) (hk2 : BkH K a S b2 e2 u2 [] 0 H0)
    (hW : WholeG S names puts es) (hlen : es.length ≤ 8) (hnow : 1 ≤ now ∧ now ≤ 33) :
    PSs (XL P w K mg base cdv A outer s Hs E) (turnBody.drop 8) (tP K M H0 (δF p a b1 b2 names puts now es) (fun H δ => BagH K p q cells H ∧ Weak δ (δ0 p))) := by
  have hr1 : Room 1 (XL P w K mg base cdv A outer s Hs E).A := hr.mono (by decide)
  have nd := hnd
  simp only [List.nodup_cons, List.mem_cons, List.not_mem_nil, or_false, not_or, List.nodup_nil, not_false_eq_true, and_true] at nd
  obtain ⟨⟨npq, npb1, npe1, npu1, npb2, npe2, npu2⟩, ⟨nqb1, nqe1, nqu1, nqb2, nqe2, nqu2⟩, ⟨nbe1, nbu1, nbb, nb1e2, nb1u2⟩, ⟨neu1, ne1b2, ne1e2, ne1u2⟩, ⟨nu1b2, nu1e2, nu1u2⟩, ⟨nbe2, nbu2⟩, neu2⟩ := nd
  have hputs0 := puts_ok (S := S) hW.names hW.pk
  have mvAll : ∀ {es1 es2 : Log} {n1 n2 : Nat} {H H' : Hp} {Sx : List Addr}, BagH K p q cells H ∧ SetAt K H a S ∧ BkH K a S b1 e1 u1 es1 n1 H ∧ BkH K a S b2 e2 u2 es2 n2 H → Mv Sx H H' → (∀ x ∈ Sx, Lk K H x) → (∀ x ∈ Sx, x ∉ [p, q, b1, e1, u1, b2, e2, u2]) → BagH K p q cells H' ∧ SetAt K H' a S ∧ BkH K a S b1 e1 u1 es1 n1 H' ∧ BkH K a S b2 e2 u2 es2 n2 H' := fun {es1 es2 n1 n2 H H' Sx} h m lk n =>
    ⟨h.1.mv m (fun z => n _ z (by simp)) (fun z => n _ z (by simp)), set_mv h.2.1 m lk, h.2.2.1.mv m lk (fun z => n _ z (by simp)) (fun z => n _ z (by simp)) (fun z => n _ z (by simp)), h.2.2.2.mv m lk (fun z => n _ z (by simp)) (fun z => n _ z (by simp)) (fun z => n _ z (by simp))⟩
  have lkNone : ∀ {H : Hp} {x : Addr}, Lk K H x → H x ≠ none := fun {H x} h z => by
    rcases h with ⟨xs, e⟩ | ⟨dx, fs, e, _⟩ <;> rw [z] at e <;> cases e
  have trkAll : ∀ {es1 es2 : Log} {n1 n2 : Nat} {H : Hp}, BagH K p q cells H ∧ SetAt K H a S ∧ BkH K a S b1 e1 u1 es1 n1 H ∧ BkH K a S b2 e2 u2 es2 n2 H → ∀ x, H x = none → x ∉ [p, q, b1, e1, u1, b2, e2, u2] := fun {es1 es2 n1 n2 H} h x hx z => by
    obtain ⟨⟨sb, _, hb⟩, _, k1, k2⟩ := h
    have l1 := k1.lk
    have l2 := k2.lk
    simp only [List.mem_cons, List.not_mem_nil, or_false] at z
    rcases z with z | z | z | z | z | z | z | z <;> subst z
    · exact (bagA K x q cells sb).trk hb (.inl rfl) hx
    · exact (bagA K p x cells sb).trk hb (.inr rfl) hx
    · exact lkNone (l1 x (by simp)) hx
    · exact lkNone (l1 x (by simp)) hx
    · exact lkNone (l1 x (by simp)) hx
    · exact lkNone (l2 x (by simp)) hx
    · exact lkNone (l2 x (by simp)) hx
    · exact lkNone (l2 x (by simp)) hx
  -- a change of the first book
  have mv1 : ∀ {es2 : Log} {n2 : Nat} {es1 : Log} {n1 : Nat} {H H' : Hp}, BagH K p q cells H ∧ SetAt K H a S ∧ BkH K a S b1 e1 u1 es1 n1 H ∧ BkH K a S b2 e2 u2 es2 n2 H → Mv [b1, e1, u1] H H' → BagH K p q cells H' ∧ SetAt K H' a S ∧ BkH K a S b2 e2 u2 es2 n2 H' := fun {es2 n2 es1 n1 H H'} h m =>
    ⟨h.1.mv m (by simp [npb1, npe1, npu1]) (by simp [nqb1, nqe1, nqu1]), set_mv h.2.1 m h.2.2.1.lk, h.2.2.2.mv m h.2.2.1.lk (by simp [Ne.symm nbb, Ne.symm ne1b2, Ne.symm nu1b2]) (by simp [Ne.symm nb1e2, Ne.symm ne1e2, Ne.symm nu1e2]) (by simp [Ne.symm nb1u2, Ne.symm ne1u2, Ne.symm nu1u2])⟩
  have mv2 : ∀ {es2 : Log} {n2 : Nat} {es1 : Log} {n1 : Nat} {H H' : Hp}, BagH K p q cells H ∧ SetAt K H a S ∧ BkH K a S b1 e1 u1 es1 n1 H ∧ BkH K a S b2 e2 u2 es2 n2 H → Mv [b2, e2, u2] H H' → BagH K p q cells H' ∧ SetAt K H' a S ∧ BkH K a S b1 e1 u1 es1 n1 H' := fun {es2 n2 es1 n1 H H'} h m =>
    ⟨h.1.mv m (by simp [npb2, npe2, npu2]) (by simp [nqb2, nqe2, nqu2]), set_mv h.2.1 m h.2.2.2.lk, h.2.2.1.mv m h.2.2.2.lk (by simp [nbb, nb1e2, nb1u2]) (by simp [ne1b2, ne1e2, ne1u2]) (by simp [nu1b2, nu1e2, nu1u2])⟩
  -- told
  obtain ⟨s1, hs1⟩ : ∃ x, x = runL S [(0, puts)] ([], 0) := ⟨_, rfl⟩
  obtain ⟨t0, ht0⟩ : ∃ x, x = D.lst (doR S 0 [] puts) := ⟨_, rfl⟩
  refine p_cons (φ1 := fun H δ => δ = (δF p a b1 b2 names puts now es).set 16 (some (.lst (t0 :: outs (toldF S) es s1))) ∧ BagH K p q cells H ∧ SetAt K H a S ∧ BkH K a S b1 e1 u1 ((0, puts) :: es) (es.length + 1) H ∧ BkH K a S b2 e2 u2 [] 0 H)
    (p_set 16 sc_law.nd (p_cat (ψ1 := fun H d => d = .lst [t0] ∧ BagH K p q cells H ∧ SetAt K H a S ∧ BkH K a S b1 e1 u1 [(0, puts)] 1 H ∧ BkH K a S b2 e2 u2 [] 0 H) (ψ := fun H d => d = .lst (t0 :: outs (toldF S) es s1) ∧ BagH K p q cells H ∧ SetAt K H a S ∧ BkH K a S b1 e1 u1 ((0, puts) :: es) (es.length + 1) H ∧ BkH K a S b2 e2 u2 [] 0 H) ?first fun H1 d1 k1 t1 c1 => ?second) fun H d k c => ⟨by rw [c.1], c.2⟩) fun H1 δ1 k1 t1 c1 => ?rest
  case first =>
    obtain ⟨o, t, last, hA⟩ := hk1
    refine pe_wk (pe_ofG (g_lst (a_oneG (g_meth (cl_Book T) (me_Book_do T) (h_Book_do T) hr (e_var 9) (fun H c => bo_nolk ((boO K b1 a o [] e1 u1).mono c hA.1)) (a_cons e_int (a_one (e_var 6))) (doSp (now := 0) (deeds := puts) hA hset okS hputs0.1 TabOk.nil hM1.1 hM1.2 neu1 (by decide) (by decide)))) (fun _ => show 1 ≤ 100 by decide))) fun H d k ⟨g, n, c, e⟩ => ?_
    obtain ⟨m1, m2, m3⟩ := mv1 (es1 := []) (n1 := 0) ⟨hbag, hset, ⟨o, t, last, hA⟩, hk2⟩ c.1
    exact ⟨by rw [e, ht0] <;> rfl, m1, m2, (do_after hA c).h, m3⟩
  case second =>
    obtain ⟨e1', hf1⟩ := c1
    refine ⟨[t0], e1', pe_wk (p_lc entL es (fun i H ds => ds = (outs (toldF S) es s1).take i ∧ BagH K p q cells H ∧ SetAt K H a S ∧ BkH K a S b1 e1 u1 ((0, puts) :: es.take i) (i + 1) H ∧ BkH K a S b2 e2 u2 [] 0 H) (own := [("_law_when", 14), ("_law_deeds", 15)]) (f := fTup (fCons (fOne 14) (fCons (fOne 15) fNil))) rfl sc_law.nd (blkOk_by (N := NW) (sc := defScope s_law) (by decide +kernel)) (i_list (e_var 12)) (fun H2 k2 c2 => ⟨rfl, mvAll hf1 (Mv.of_same c2 : Mv [] H1 H2) (by simp) (by simp)⟩)
      (fun _ _ _ _ _ => pg_tup rfl (pgs_cons (pg_name (i := 14) sc_law.nd rfl (Or.inl rfl)) (pgs_cons (pg_name (i := 15) sc_law.nd rfl (Or.inl rfl)) pgs_nil))) (tg_pair 14 15) (by simp) (Nat.lt_of_le_of_lt hlen (by decide)) (fun i ds H r xs ys hr0 hrl iv => ⟨iv.1, mvAll iv.2 (Mv.upd (S := [r]) hrl (fun _ z => by cases z) (by simp)) (fun x hx => by rw [List.mem_singleton.mp hx]; exact .inl ⟨xs, hrl⟩) (fun x hx => by rw [List.mem_singleton.mp hx]; exact trkAll hf1 r hr0)⟩) (fun i ds H H' e iv => ⟨iv.1, mvAll iv.2 (Mv.of_same e : Mv [] H H') (by simp) (by simp)⟩)
      fun M' hx hc i b H2 ds hb k2 iv => ⟨_, rfl, fun H3 e3 k3 t3 _ _ _ _ _ => ?turn⟩) fun H2 d k2 ⟨ds, ed, iv⟩ => ?fin⟩
    case turn =>
      obtain ⟨hds, iv⟩ := iv
      have iv3 := mvAll iv (Mv.of_same e3 : Mv [] H2 H3) (by simp) (by simp)
      obtain ⟨o, t, last, hA⟩ := iv3.2.2.1
      obtain ⟨w1, w2, w3⟩ := hW.next hb
      have hil := (List.getElem?_eq_some_iff.mp hb).1
      refine pe_wk (pe_ofG (g_meth (cl_Book T) (me_Book_do T) (h_Book_do T) hr (e_var 9) (fun H c => bo_nolk ((boO K b1 a o _ e1 u1).mono c hA.1)) (a_cons (e_var 14) (a_one (e_var 15))) (doSp (now := b.1) (deeds := b.2) hA iv3.2.1 okS w1 w3 (by rw [hc]; exact hM1.1) (by rw [hc]; exact hM1.2) neu1 (by omega) (by rw [List.length_cons, List.length_take]; omega)))) fun H d k ⟨g, n, c, e⟩ => ?_
      obtain ⟨m1, m2, m3⟩ := mv1 iv3 c.1
      have et : es.take (i + 1) = es.take i ++ [b] := by rw [List.take_succ, hb] <;> rfl
      have eo : (outs (toldF S) es s1).take (i + 1) = (outs (toldF S) es s1).take i ++ [d] := by
        rw [List.take_succ, outs_get (toldF S) es s1 i b hb, told_fins, e, hs1] <;> rfl
      exact ⟨by rw [eo, hds], m1, m2, by rw [et]; exact (do_after hA c).h, m3⟩
    case fin =>
      have hol := outs_len (toldF S) es s1
      obtain ⟨hds, iv⟩ := iv
      rw [← hol, List.take_length] at hds
      rw [List.take_length] at iv
      refine ⟨ds, ed, ?_, fun H3 e3 => ⟨by rw [hds] <;> rfl, mvAll iv (Mv.of_same e3 : Mv [] H2 H3) (by simp) (by simp)⟩⟩
      rw [hds, hol]
      exact Nat.le_trans (show 1 + es.length ≤ 9 by omega) (by decide)
  case rest =>
  obtain ⟨ed1, hf1⟩ := c1
  subst ed1
  -- the puts, late
  have hl0 : lateL [] 0 puts = [(0, puts)] := lateL_no fun e he => by cases he
  obtain ⟨o2, t2, last2, hA2⟩ := hf1.2.2.2
  refine p_all (s_exprG (g_meth (cl_Book T) (me_Book_late T) (h_late T) hr (e_var 10) (fun H c => bo_nolk ((boO K b2 a o2 [] e2 u2).mono c hA2.1)) (a_cons e_int (a_one (e_var 6))) (lateSp (now := 0) (deeds := puts) hA2 hf1.2.1 okS (by rw [hl0]; exact ⟨hputs0.1, trivial⟩) hM2.1 hM2.2 neu2 (by decide) (by decide)))) fun g H2 n2 k2 t2' c2 => ?_
  have hf2 : BagH K p q cells H2 ∧ SetAt K H2 a S ∧ BkH K a S b1 e1 u1 ((0, puts) :: es) (es.length + 1) H2 ∧ BkH K a S b2 e2 u2 [(0, puts)] 1 H2 := by
    obtain ⟨m1, m2, m3⟩ := mv2 hf1 c2.1
    exact ⟨m1, m2, m3, by have := (late_after hA2 c2).h; rw [hl0] at this; exact this⟩
  clear c2 n2 hA2 last2 t2 o2 hf1
  -- another order
  refine p_bld1 [0] [] (fun g H δ => ∃ ts : Log, δ = ((δF p a b1 b2 names puts now es).set 16 (some (.lst (t0 :: outs (toldF S) es s1)))).set 17 (some (.ref (g 0))) ∧ (BagH K p q cells H ∧ SetAt K H a S ∧ BkH K a S b1 e1 u1 ((0, puts) :: es) (es.length + 1) H ∧ BkH K a S b2 e2 u2 [(0, puts)] 1 H) ∧ ownL K (M.owns ([0].map g)) H (g 0) (ts.map entL) ∧ ts.Perm es)
    (f_set 17 sc_law.nd e_newL (fun _ => rfl)) (fun g H c j hj => ?_) (fun j hj => by cases hj) (fun g H3 n3 k3 c3 t3 => ?_) (fun g H3 δ3 n3 t3 c3 => ?_)
  · cases List.mem_singleton.mp hj
    exact (lstA K (g 0) []).trk c.2 rfl
  · have hr9 := trkAll hf2 (g 0) (n3 0)
    have hrp : g 0 ≠ p := fun z => hr9 (by simp [z])
    have hrq : g 0 ≠ q := fun z => hr9 (by simp [z])
    have hMp : (M.owns ([0].map g)).c p := .inl hM
    have hMr : (M.owns ([0].map g)).c (g 0) := .inr (by simp)
    have own3 : ownL K (M.owns ([0].map g)) H3 (g 0) [] := by
      obtain ⟨_, xs, h1, h2⟩ := c3.2
      cases h2
      exact ⟨[], h1, .nil⟩
    have hf3 := mvAll hf2 (Mv.of_same c3.1 : Mv [] H2 H3) (by simp) (by simp)
    generalize M.owns ([0].map g) = M1 at *
    generalize g 0 = r at *
    refine p_for entL es (fun i H δ => ∃ ts : Log, δ = ((δF p a b1 b2 names puts now es).set 16 (some (.lst (t0 :: outs (toldF S) es s1)))).set 17 (some (.ref r)) ∧ (BagH K p q cells H ∧ SetAt K H a S ∧ BkH K a S b1 e1 u1 ((0, puts) :: es) (es.length + 1) H ∧ BkH K a S b2 e2 u2 [(0, puts)] 1 H) ∧ ownL K M1 H r (ts.map entL) ∧ ts.Perm (es.take i)) (g := gName 18) (js := [18]) (tf := fOne 18) PassesOwn.never rfl (i_list (e_var 12))
      (fun H4 k4 t4 e4 => ⟨[], rfl, mvAll hf3 (Mv.of_same e4 : Mv [] H3 H4) (by simp) (by simp), own3.mv (Mv.of_same e4 : Mv [] H3 H4) k4 (by simp), List.Perm.refl _⟩) (pg_name (i := 18) sc_law.nd rfl (Or.inl rfl)) (tg_name 18)
      (fun i b H4 δ4 hb k4 ⟨ts, e0, hf4, hown, hperm⟩ => ⟨(((δF p a b1 b2 names puts now es).set 16 (some (.lst (t0 :: outs (toldF S) es s1)))).set 17 (some (.ref r))).set 18 (some (entL b)), by rw [e0] <;> rfl, fun H5 e5 k5 t5 => ?_⟩) fun H4 δ4 k4 iv => by rw [List.take_length] at iv; exact iv
    have hf5 := mvAll hf4 (Mv.of_same e5 : Mv [] H4 H5) (by simp) (by simp)
    have hown5 := hown.mv (Mv.of_same e5 : Mv [] H4 H5) (.of_same e5) (by simp)
    obtain ⟨⟨s5, ok5, hb5⟩, hset5, hk15, hk25⟩ := id hf5
    have hil := (List.getElem?_eq_some_iff.mp hb).1
    have htl : ts.length = i := by rw [hperm.length_eq, List.length_take]; omega
    obtain ⟨d1, d2, d3⟩ := drawM_ok (many := (ts.length : Int) + 1) ok5 (by omega)
    obtain ⟨acc, eacc, lacc⟩ := id hown5
    have hrp' : r ∉ [p] := by simpa using hrp
    refine p_cons (φ1 := fun H δ => ∃ ts : Log, δ = (((δF p a b1 b2 names puts now es).set 16 (some (.lst (t0 :: outs (toldF S) es s1)))).set 17 (some (.ref r))).set 18 (some (entL b)) ∧ (BagH K p q cells H ∧ SetAt K H a S ∧ BkH K a S b1 e1 u1 ((0, puts) :: es) (es.length + 1) H ∧ BkH K a S b2 e2 u2 [(0, puts)] 1 H) ∧ ownL K M1 H r (ts.map entL) ∧ ts.Perm (es.take (i + 1)))
      (p_ins (ds := ts.map entL) (S := [p]) (k := (drawM cells s5 ((ts.length : Int) + 1)).1.toNat) (B := (As.mv [p] H5).and (bagA K p q cells (drawM cells s5 ((ts.length : Int) + 1)).2)) (C := (As.mv [p] H5).and (bagA K p q cells (drawM cells s5 ((ts.length : Int) + 1)).2)) (d := entL b) (e_var 17)
        (e_is (e_drawH T hr1 hMp npq ok5 hb5 (by omega) (by omega) (fun A => e_var 1) (e_add (e_lenQ (n := ts.length) (n_len T) (e_var 17) fun H c => ⟨acc, c.1.keep _ _ eacc hrp', by rw [lacc.length, List.length_map]⟩) e_int)) (by rw [Int.toNat_of_nonneg d2])) (e_var 18) (fun H c => c.1) hMr hrp' hown5 (by omega) (by rw [List.length_map, htl]; exact Nat.lt_of_le_of_lt (show i ≤ 8 by omega) (by decide))
        fun H u k c ho mv e => ⟨ts.take (drawM cells s5 ((ts.length : Int) + 1)).1.toNat ++ [b] ++ ts.drop (drawM cells s5 ((ts.length : Int) + 1)).1.toNat, rfl, ?_, ?_, ?_⟩) fun H6 δ6 k6 t6 c6 => ?_
    · have lk2 : ∀ x ∈ [r, p], Lk K H5 x := fun x hx => by
        rcases List.mem_cons.mp hx with z | z
        · rw [z]; exact .inl ⟨acc, eacc⟩
        · rw [List.mem_singleton.mp z]; exact lst_lk hb5.1
      have nx : ∀ x ∈ [r, p], x ∉ [b1, e1, u1, b2, e2, u2] := fun x hx z => by
        rcases List.mem_cons.mp hx with y | y
        · rw [y] at z
          exact hr9 (List.mem_cons_of_mem _ (List.mem_cons_of_mem _ z))
        · rw [List.mem_singleton.mp y] at z
          simp only [List.mem_cons, List.not_mem_nil, or_false] at z
          rcases z with z | z | z | z | z | z
          · exact npb1 z
          · exact npe1 z
          · exact npu1 z
          · exact npb2 z
          · exact npe2 z
          · exact npu2 z
      exact ⟨⟨_, d1, bag_upd c.2 e hrp hrq⟩, set_mv hset5 mv lk2, hk15.mv mv lk2 (fun z => nx _ z (by simp)) (fun z => nx _ z (by simp)) (fun z => nx _ z (by simp)), hk25.mv mv lk2 (fun z => nx _ z (by simp)) (fun z => nx _ z (by simp)) (fun z => nx _ z (by simp))⟩
    · rw [List.map_append, List.map_append, List.map_take, List.map_drop]
      exact ho
    · have e1 : es.take (i + 1) = es.take i ++ [b] := by rw [List.take_succ, hb] <;> rfl
      rw [e1, List.append_assoc]
      have h := List.perm_middle (a := b) (l₁ := ts.take (drawM cells s5 ((ts.length : Int) + 1)).1.toNat) (l₂ := ts.drop (drawM cells s5 ((ts.length : Int) + 1)).1.toNat)
      rw [List.take_append_drop] at h
      exact h.trans ((hperm.cons b).trans (List.perm_append_singleton b (es.take i)).symm)
    · obtain ⟨ts', e6, f6⟩ := c6
      subst e6
      exact p_nilW (by repeat (first | exact .nil | refine .yes ?_ | refine .no ?_)) ⟨ts', rfl, f6⟩
  obtain ⟨ts, e3, hf3, hown3, hperm⟩ := c3
  subst e3
  refine ⟨17, 0, ts.map entL, rfl, hown3, by simp, ?_⟩
  have hM' : (M.owns (List.map g [])).c p := .inl hM
  have hM1' : (M.owns (List.map g [])).c e1 ∧ (M.owns (List.map g [])).c u1 := ⟨.inl hM1.1, .inl hM1.2⟩
  have hM2' : (M.owns (List.map g [])).c e2 ∧ (M.owns (List.map g [])).c u2 := ⟨.inl hM2.1, .inl hM2.2⟩
  clear hown3 hM hM1 hM2
  generalize M.owns (List.map g []) = M3 at *
  exact h_end T cdv A outer s Hs E hr hM' hM2' hnd hf3.1 hf3.2.1 okS ndS hW hlen hnow hperm hf3.2.2.1 hf3.2.2.2 hs1
end
end RQ
set_option Elab.async false
set_option linter.all false
set_option maxRecDepth 100000
set_option maxHeartbeats 4000000
namespace RQ
open PySem PySem.Spec PyProof.Rows L2 Dx
section
variable {P : Program} {w : World} {K : PySem.W.Frag} {mg : Str → Option Value} {base : Heap}
set_option maxHeartbeats 40000000 in
theorem h_turn (T : Txt K mg) (cdv : Value) (A : Around) (outer : List Env) (s : Shared) (Hs : Hp) (E : XK) (hr : Room 10 (A.deeper (envOfC "law" (defScope s_law) s.heap.objs.size (atG "law" K) cdv))) {M : AS} {p q : Addr} {cells : Cells} (hM : M.c p) (hpq : p ≠ q) {H0 : Hp} {iT : Int} (hB0 : BagH K p q cells H0) :
    PSs (XL P w K mg base cdv A outer s Hs E) turnBody (tP K M H0 ((δ0 p).set 2 (some (.int iT))) (fun H δ => BagH K p q cells H ∧ Weak δ (δ0 p))) := by
  have hr1 : Room 1 (XL P w K mg base cdv A outer s Hs E).A := hr.mono (by decide)
  obtain ⟨s0, ok0, hb0⟩ := hB0
  obtain ⟨ok1, vs, hvs, hkeys, hvals⟩ := linesM_vs ok0
  obtain ⟨hnames, ok2⟩ := namesM_ok ok1
  -- the lines, the names
  refine p_all (s_parG 3 4 rfl sc_law.nd rfl rfl (by decide) rfl rfl (a_consG (Bg := fun g => (As.mv [p] H0).and ((tabA K (g 0) (linesM cells s0).2).and (bagA K p q cells (linesM cells s0).1))) (g_call (h_lines T) (hr.mono (by decide)) (g_law_lines T) (a_one (e_var 1)) (spWG_ok (fun H e => ⟨p, q, cells, s0, rfl, (bagA K p q cells s0).mono e hb0, hM, hpq, ok0, rfl, rfl, rfl⟩) fun g H1 H' n e m k => ⟨(Mv.of_same e).trans m, k⟩))
    fun g => a_one (c_call (C := (As.mv [p] H0).and ((tabA K (g 0) (linesM cells s0).2).and (bagA K p q cells (namesM cells (linesM cells s0).1).2))) (h_lnames T) (hr.mono (by decide)) (g_law_names T) (a_cons (e_var 1) (a_one e_int)) (spW_ok (fun H c => ⟨p, q, cells, (linesM cells s0).1, rfl, c.2.2, hM, hpq, ok1, rfl, rfl, rfl⟩) fun H1 H' c m k => ⟨c.1.trans m, (tabA K (g 0) _).frame m (fun x hx (l : x = g 0) => ?_) c.2.1, k⟩))) rfl) fun g H1 ng k1 t1 c1 => ?_
  · exact absurd l (((List.mem_singleton.mp hx) ▸ lst_lk c.2.2.1 : Lk K H1 x).tab c.2.1)
  generalize (namesM cells (linesM cells s0).1).2 = s2 at *
  generalize (namesM cells (linesM cells s0).1).1 = names at *
  rw [hvs] at c1
  obtain ⟨m1, ht1, hb1⟩ := c1
  obtain ⟨t, ht⟩ : ∃ t, t = g 0 := ⟨_, rfl⟩
  rw [← ht] at ht1 ⊢
  clear ht ng hvs ok1 hb0 ok0
  -- fence no
  have hkeys' : (noFence vs).map (·.1) = keysL := by rw [noFence_keys]; exact hkeys
  have hvals' := noFence_val hvals
  have hfence := cfg_fence hkeys
  have hpt : p ≠ t := (lst_lk hb1.1).tab ht1
  have hqt : q ≠ t := (lst_lk hb1.2).tab ht1
  refine p_nx (s_tput (B := As.same H1) (C := As.same H1) (G := As.same H1) (Es := (As.mv [t] H1).and (tabA K t (vsD (noFence vs)))) (hu_of hr) (e_str (i := "no")) (e_var 3) e_str (fun H e => (tabA K t _).mono e ht1) rfl ?_ fun H u e i f => ⟨mv_put (Mv.of_same e) (by simp) f, ?_⟩) fun H2 k2 t2 c2 => ?_
  · have : (vsD vs).length = 12 := by rw [← List.length_map (f := (·.1)), vsD_keys, hkeys]; rfl
    rw [this]
    decide
  · have e0 := put_old (vs := vs) (k := "fence") (x := "no") (by rw [hkeys]; decide +kernel)
    rw [e0] at i
    exact i
  obtain ⟨m2, ht2⟩ := c2
  have hb2 := bag_mv hb1 m2 (by simpa using hpt) (by simpa using hqt)
  generalize noFence vs = ws at *
  clear hvals hkeys ht1 hb1 m1
  -- the setting
  refine p_all (s_setG 5 sc_law.nd (g_make H2 (B := As.same H2) (Gi := fun o g' => (As.same H2).and ((seO K o (g' 0)).and (tabA K (g' 0) (textsT (lsOf ws))))) (mk_Setting T) (h_Setting_init T) (hr.mono (by decide)) (g_Setting T) (a_one (e_is (d' := .lst ((lsOf ws).map lineD)) (e_lock (A := As.same H2) (B := As.same H2) (fun H e => (tabA K t (vsD ws)).mono e ht2) fun od kvs => e_lcM (own := [("_law_word", 20), ("_law_text", 21)]) (items := (vsD ws).map entD) (B := (As.same H2).frz t od (.dK kvs)) fLine rfl sc_law.nd (blkOk_by (N := NW) (sc := defScope s_law) (by decide +kernel)) (i_items (B := As.same H2) (e_var 3) (fun H e => (tabA K t (vsD ws)).mono e ht2)) (fun H c => c.1)
      (fun _ _ _ _ _ => pg_tup rfl (pgs_cons (pg_name (i := 20) sc_law.nd rfl (Or.inl rfl)) (pgs_cons (pg_name (i := 21) sc_law.nd rfl (Or.inl rfl)) pgs_nil))) (tg_pair 20 21) (by simp) ?_ fun M' _ _ d hd => ?_) ?_)) (fun H x e hx => (Mv.of_same e : Mv [] H2 H).free hx) fun o ho => spWG_ok (fun H c => ⟨o, lsOf ws, rfl, c.2, lines_ok hkeys' hvals', rfl, rfl, rfl⟩) fun g' H H' n c m k => ⟨((Mv.of_same c.1 : Mv [] H2 H).skip m ho).same, k⟩)) fun g2 H3 n3 k3 t3 c3 => ?_
  · have : (vsD ws).length = 12 := by rw [← List.length_map (f := (·.1)), vsD_keys, hkeys']; rfl
    rw [List.length_map, this]
    decide
  · obtain ⟨e, he, rfl⟩ := List.mem_map.mp hd
    obtain ⟨v, hv, rfl⟩ := List.mem_map.mp he
    have h1 := (keys_sign v.1 (hkeys' ▸ List.mem_map.mpr ⟨v, hv, rfl⟩)).2
    have h2 := (hvals' v hv).len
    have e1 : (" " : Str).length = 1 := rfl
    have e2 : (v.1 ++ " ").length = v.1.length + (" " : Str).length := Str.length_append _ _
    exact ⟨_, rfl, fun _ _ _ _ _ => e_adds (e_adds (e_var 20 (d := .str v.1)) e_str (Nat.le_trans (show v.1.length + (" " : Str).length ≤ 7 by omega) (by decide))) (e_var 21 (d := .str v.2)) (Nat.le_trans (show (v.1 ++ " ").length + v.2.length ≤ 1007 by omega) (by decide))⟩
  · unfold vsD lsOf
    rw [List.map_map, List.map_map, List.map_map] <;> rfl
  obtain ⟨a, ha⟩ : ∃ a, a = g2 0 := ⟨_, rfl⟩
  rw [← ha] at c3 ⊢
  have hb3 := (bagA K p q cells s2).mono c3.1 hb2
  have hset3 : SetAt K H3 a (cfgOf ws) := set_at c3.2.1 (by rw [← texts_cfg hkeys']; exact c3.2.2)
  have okS := cfg_ok hkeys' hvals'
  have ndS := cfg_nodup ws
  generalize cfgOf ws = S at *
  clear c3 ht2 hb2 m2 hkeys' hvals' ha n3
  -- the puts
  have hn4 : names.length = 4 := hnames.four
  let δA : Addr → LS := fun r => [none, some (.ref p), none, none, some (.lst (names.map D.str)), some (.ref a), some (.ref r), some .non, none, none, none, none, none, none, none, none, none, none, none, none, none, none]
  refine p_bld2 [0] [] (fun g H δ => δ = δA (g 0) ∧ BagH K p q cells H ∧ SetAt K H a S ∧ ∃ ds, putsPre (names.take 3) ds ∧ ownL K (M.owns ([0].map g)) H (g 0) (ds.map deedD))
    (fun g H δ => δ = δA (g 0) ∧ BagH K p q cells H ∧ SetAt K H a S ∧ ∃ ds, putsOk names ds ∧ ownL K (M.owns ([0].map g)) H (g 0) (ds.map deedD))
    (f_par 6 7 rfl sc_law.nd rfl rfl (by decide) rfl rfl (a_consG e_newL fun g => a_one e_non) (fun _ => rfl) (fun _ => rfl) rfl) (fun g H c j hj => ?_) (fun j hj => by cases hj) (fun g H4 n4 k4 c4 t4 => ?_) (fun g H4 δ4 n4 t4 c4 => ?_) (fun g H4 δ4 n4 t4 c4 => ?_)
  · cases List.mem_singleton.mp hj
    exact (lstA K (g 0) []).trk c.2 rfl
  · -- the first three
    have hM1 : (M.owns ([0].map g)).c p := .inl hM
    have hMr : (M.owns ([0].map g)).c (g 0) := .inr (by simp)
    have hrp : g 0 ≠ p := fun z => (bagA K p q cells s2).trk hb3 (.inl z) (n4 0)
    have hrq : g 0 ≠ q := fun z => (bagA K p q cells s2).trk hb3 (.inr z) (n4 0)
    generalize hM' : M.owns ([0].map g) = M1 at *
    generalize g 0 = r at *
    have hcut : Dx.cutD (names.map D.str) none (some (3 : Int)) = (names.take 3).map D.str := by
      have := cut_take (names.map D.str) 3 (by rw [List.length_map, hn4]; decide)
      rw [← List.map_take] at this
      exact this
    refine p_weakS (δ' := δA r) (by repeat (first | exact .nil | refine .yes ?_ | refine .no ?_)) (p_for D.str (names.take 3) (fun i H δ => δ = δA r ∧ BagH K p q cells H ∧ SetAt K H a S ∧ ∃ ds, putsPre ((names.take 3).take i) ds ∧ ownL K M1 H r (ds.map deedD)) (g := gName 8) (js := [8]) (tf := fOne 8) PassesOwn.never rfl
      (i_list (e_is (e_slL (e_var 4) o_none (o_some e_int)) (congrArg D.lst hcut))) (fun H5 k5 t5 e5 => ⟨rfl, ⟨s2, ok2, (bagA K p q cells s2).mono (c4.1.trans e5) hb3⟩, set_mv hset3 (Mv.of_same (c4.1.trans e5) : Mv [] H3 H5) (by simp), [], trivial, ?_⟩) (pg_name (i := 8) sc_law.nd rfl (Or.inl rfl)) (tg_name 8) (fun i b H5 δ1 hb k5 ⟨e0, ⟨s5, ok5, hb5⟩, hset5, ds, hds, hown⟩ => ⟨(δA r).set 8 (some (.str b)), by rw [e0] <;> rfl, fun H6 e6 k6 t6 => ?_⟩) fun H5 δ1 k5 iv => ⟨iv.1, iv.2.1, iv.2.2.1, by have := iv.2.2.2; rw [List.take_length] at this; exact this⟩)
    · obtain ⟨_, xs, h1, h2⟩ := (lstA K r []).mono e5 c4.2
      cases h2
      exact ⟨[], h1, .nil⟩
    · have hb6 := (bagA K p q cells s5).mono e6 hb5
      obtain ⟨d1, d2, d3⟩ := drawM_ok (many := 2) ok5 (by decide)
      obtain ⟨d4, d5, d6⟩ := drawM_ok (many := 10) d1 (by decide)
      obtain ⟨d7, d8, d9⟩ := drawM_ok (many := 9) d4 (by decide)
      have hdl : ds.length ≤ 4 := by rw [putsPre_len hds, List.length_take, List.length_take]; omega
      have hi3 : ((names.take 3).take (i + 1)) = (names.take 3).take i ++ [b] := by rw [List.take_succ, hb] <;> rfl
      have hkey : PyData.strOk (names.getD (drawM cells s5 2).1.toNat Str.empty) = true := by
        have hlt : (drawM cells s5 2).1.toNat < names.length := by omega
        refine hnames.ok _ ?_
        rw [List.getD_eq_getElem?_getD, List.getElem?_eq_getElem hlt]
        exact List.getElem_mem _
      refine p_cons (φ1 := fun H δ => δ = (δA r).set 8 (some (.str b)) ∧ BagH K p q cells H ∧ SetAt K H a S ∧ ∃ ds, putsPre ((names.take 3).take (i + 1)) ds ∧ ownL K M1 H r (ds.map deedD))
        (p_app (ds := ds.map deedD) (S := [p]) (d := deedD (.put b (names.getD (drawM cells s5 2).1.toNat Str.empty) (drawM cells (drawM cells s5 2).2 10).1 (drawM cells (drawM cells (drawM cells s5 2).2 10).2 9).1 none)) (C := (As.mv [p] H6).and (bagA K p q cells (drawM cells (drawM cells (drawM cells s5 2).2 10).2 9).2)) (e_var 6)
          (e_tup (a_cons e_str (a_cons (e_var 8) (a_cons (e_ixL (e_var 4) (e_drawH T hr1 hM1 hpq ok5 hb6 (by decide) (by decide) (fun A => e_var 1) e_int) (at_strs d2 (by omega))) (a_cons (e_drawR T hr1 hM1 hpq d1 (by decide) (by decide) (fun A => e_var 1) e_int) (a_cons (e_drawR T hr1 hM1 hpq d4 (by decide) (by decide) (fun A => e_var 1) e_int) (a_one e_non)))))))
          (fun H c => c.1) hMr (by simpa using hrp) (hown.mv (Mv.of_same e6 : Mv [] H5 H6) (.of_same e6) (by simp)) (by rw [List.length_map]; exact Nat.lt_of_le_of_lt hdl (by decide)) fun H u k c ho mv e => ⟨rfl, ⟨_, d7, bag_upd c.2 e hrp hrq⟩, set_mv hset5 ((Mv.of_same e6 : Mv [r, p] H5 H6).trans mv) ?_, ds ++ [.put b (names.getD (drawM cells s5 2).1.toNat Str.empty) (drawM cells (drawM cells s5 2).2 10).1 (drawM cells (drawM cells (drawM cells s5 2).2 10).2 9).1 none], ?_, ?_⟩) fun H7 δ7 k7 t7 ⟨e7, f7⟩ => ?_
      · intro x hx
        obtain ⟨acc, e, _⟩ := hown
        rcases List.mem_cons.mp hx with z | z
        · rw [z]; exact .inl ⟨acc, e⟩
        · rw [List.mem_singleton.mp z]; exact lst_lk hb5.1
      · rw [hi3]
        exact putsPre_snoc hds ⟨_, _, _, hkey, rfl⟩
      · rw [List.map_append]
        exact ho
      · subst e7
        exact p_nilW (by repeat (first | exact .nil | refine .yes ?_ | refine .no ?_)) ⟨rfl, f7⟩
  · -- the fourth
    have hMr : (M.owns ([0].map g)).c (g 0) := .inr (by simp)
    have hrp : g 0 ≠ p := fun z => (bagA K p q cells s2).trk hb3 (.inl z) (n4 0)
    have hrq : g 0 ≠ q := fun z => (bagA K p q cells s2).trk hb3 (.inr z) (n4 0)
    generalize hM' : M.owns ([0].map g) = M1 at *
    generalize g 0 = r at *
    obtain ⟨e4, ⟨s4, ok4, hb4⟩, hset4, ds, hds, hown⟩ := c4
    subst e4
    obtain ⟨na, nb, nc, nd, hnm⟩ := hnames.ex
    have hz : ds.length = 3 := by
      rw [putsPre_len hds, List.length_take, hn4]
      decide
    refine p_app (ds := ds.map deedD) (S := []) (d := deedD (.put nd na 0 0 (some na))) (C := As.same H4) (e_var 6)
      (e_tup (a_cons e_str (a_cons (e_ixL (e_var 4) e_int (by rw [hnm]; exact atI_nat (j := 3) rfl)) (a_cons (e_ixL (e_var 4) e_int (by rw [hnm]; exact atI_nat (j := 0) rfl)) (a_cons e_int (a_cons e_int (a_one (e_ixL (e_var 4) e_int (by rw [hnm]; exact atI_nat (j := 0) rfl)))))))))
      (fun H c => Mv.of_same c) hMr (by simp) hown (by rw [List.length_map, hz]; decide) fun H u k c ho mv e => ⟨rfl, ⟨s4, ok4, bag_upd ((bagA K p q cells s4).mono c hb4) e hrp hrq⟩, set_mv hset4 mv ?_, ds ++ [.put nd na 0 0 (some na)], ?_, ?_⟩
    · intro x hx
      obtain ⟨acc, e, _⟩ := hown
      rw [List.mem_singleton.mp hx]
      exact .inl ⟨acc, e⟩
    · rw [hnm] at hds
      match ds, hz, hds with
      | [x1, x2, x3], _, ⟨⟨k1, w1, d1, o1, e1⟩, ⟨k2, w2, d2, o2, e2⟩, ⟨k3, w3, d3, o3, e3⟩, _⟩ =>
        exact ⟨na, nb, nc, nd, k1, k2, k3, w1, w2, w3, d1, d2, d3, hnm, ⟨o1, o2, o3⟩, by rw [e1, e2, e3] <;> rfl⟩
    · rw [List.map_append]
      exact ho
  obtain ⟨e4, hbag4, hset4, puts, hputs, hown4⟩ := c4
  subst e4
  refine ⟨6, 0, puts.map deedD, rfl, hown4, by simp, ?_⟩
  have hM4 : (M.owns (List.map g [])).c p := .inl hM
  generalize M.owns (List.map g []) = M4 at *
  clear hown4
  generalize g 0 = r at *
  -- the books, the entries
  obtain ⟨s4, ok4, hb4⟩ := hbag4
  obtain ⟨dxS, tS, eS1, eS2⟩ := id hset4
  have hinit : ∀ (B : As) (o : Addr), (∀ H, B.p H → Same H4 H) → ¬ B.L o → SpOkG K M4 (spWG K (preBI K)) (newO K B o (atG "Book" K)) [.ref o, .ref a] (fun g' => B.and (bookN K a o (g' 0) (g' 1) (g' 2) (g' 3))) (fun _ => .non) := fun B o hB no => spWG_ok (fun H c => ⟨o, a, dxS, .ref tS, rfl, c.2, hB H c.1 _ _ eS1, rfl, rfl, rfl⟩) fun g' H H' n c m k => ⟨B.frame m (fun x hx l => absurd ((List.mem_singleton.mp hx) ▸ l) no) c.1, k⟩
  let δE : Gh → Int → LS := fun g now => [none, some (.ref p), none, none, some (.lst (names.map D.str)), some (.ref a), some (.lst (puts.map deedD)), some .non, none, some (.ref (g 0)), some (.ref (g 1)), some (.int now), some (.ref (g 3)), none, none, none, none, none, none, none, none, none]
  let Fx : Gh → Hp → Prop := fun g H => SetAt K H a S ∧ BkH K a S (g 0) (g 6) (g 8) [] 0 H ∧ BkH K a S (g 1) (g 13) (g 17) [] 0 H
  let Ds : Gh → Prop := fun g => [p, q, g 3, g 0, g 6, g 8, g 1, g 13, g 17].Nodup
  refine p_bld1 [6, 8, 13, 17, 3] [6, 8, 13, 17] (fun g H δ => ∃ (now : Int) (es : Log), δ = δE g now ∧ BagH K p q cells H ∧ Fx g H ∧ Ds g ∧ ownL K (M4.owns ([6, 8, 13, 17, 3].map g)) H (g 3) (es.map entL) ∧ EntsOk names puts es now ∧ es.length ≤ 8 ∧ now ≤ 33)
    (f_tup [9, 10, 11, 12] rfl (a_consGG (g_fresh (g_makeF (B := As.same H4) (Gi := fun o g' => (As.same H4).and (bookN K a o (g' 0) (g' 1) (g' 2) (g' 3))) (mk_Book T) (h_Book_init T) (hr.mono (by decide)) (g_Book T) (a_one (e_var 5)) fun o no => hinit _ o (fun H c => c) no))
      fun g => a_consGG (g_fresh (g_makeF (B := ((As.same H4).and (bookN K a (g 0) (g 1) (g 2) (g 3) (g 4))).and (As.pure (∀ i, ¬ (As.same H4).L (g i)))) (Gi := fun o g' => (((As.same H4).and (bookN K a (g 0) (g 1) (g 2) (g 3) (g 4))).and (As.pure (∀ i, ¬ (As.same H4).L (g i)))).and (bookN K a o (g' 0) (g' 1) (g' 2) (g' 3))) (mk_Book T) (h_Book_init T) (hr.mono (by decide)) (g_Book T) (a_one (e_var 5)) fun o no => hinit _ o (fun H c => c.1.1) no))
      fun g' => a_consC e_int (a_oneG (g_fresh e_newL))) (fun g => rfl) (by decide) (fun g => rfl) (pgs_cons (pg_name (i := 9) sc_law.nd rfl (Or.inr rfl)) (pgs_cons (pg_name (i := 10) sc_law.nd rfl (Or.inl rfl)) (pgs_cons (pg_name (i := 11) sc_law.nd rfl (Or.inl rfl)) (pgs_cons (pg_name (i := 12) sc_law.nd rfl (Or.inl rfl)) pgs_nil)))))
    (fun g H c j hj => ?_) (fun j hj => ?_) (fun g H5 n5 k5 c5 t5 => ?_) (fun g H5 δ5 n5 t5 c5 => ?_)
  · obtain ⟨⟨⟨⟨⟨⟨_, hk1⟩, _⟩, hk2⟩, _⟩, hl⟩, _⟩ := c
    simp only [List.mem_cons, List.not_mem_nil, or_false] at hj
    rcases hj with e | e | e | e | e <;> subst e
    · exact (earlA K (g 6) 0 none).trk hk1.2.2.2.1 rfl
    · exact (lstA K (g 8) []).trk hk1.2.2.2.2.1 rfl
    · exact (earlA K (g 13) 0 none).trk hk2.2.2.2.1 rfl
    · exact (lstA K (g 17) []).trk hk2.2.2.2.2.1 rfl
    · exact (lstA K (g 3) []).trk hl rfl
  · simp only [List.mem_cons, List.not_mem_nil, or_false] at hj ⊢
    omega
  · obtain ⟨⟨⟨⟨⟨⟨e5, hk1⟩, f1⟩, hk2⟩, f2⟩, hl⟩, f3⟩ := c5
    have e5 : Same H4 H5 := e5
    have hp0 : ∀ i, p ≠ g i := fun i z => (bagA K p q cells s4).trk hb4 (.inl z.symm) (n5 i)
    have hq0 : ∀ i, q ≠ g i := fun i z => (bagA K p q cells s4).trk hb4 (.inr z.symm) (n5 i)
    have hDs : Ds g := by
      have f3' := f3 0
      have f20 := f2 0
      have f23 := f2 3
      have f24 := f2 4
      have d1 : ∀ {x : Addr}, ¬ ((((As.same H4).and (bookN K a (g 0) (g 2) (g 4) (g 6) (g 8))).and (As.pure (∀ i, ¬ (As.same H4).L (evens g i))))).L x → x ≠ g 0 ∧ x ≠ g 6 ∧ x ≠ g 8 := fun h => ⟨fun z => h (.inl (.inr (.inl z))), fun z => h (.inl (.inr (.inr (.inr (.inr (.inl z)))))), fun z => h (.inl (.inr (.inr (.inr (.inr (.inr (.inl z)))))))⟩
      obtain ⟨a1, a2, a3⟩ := d1 f20
      obtain ⟨a4, a5, a6⟩ := d1 f23
      obtain ⟨a7, a8, a9⟩ := d1 f24
      obtain ⟨b1, b2, b3⟩ := d1 (x := g 3) fun z => f3' (.inl (.inl z))
      have b4 : g 3 ≠ g 1 := fun z => f3' (.inl (.inr (.inl z)))
      have b5 : g 3 ≠ g 13 := fun z => f3' (.inl (.inr (.inr (.inr (.inr (.inl z))))))
      have b6 : g 3 ≠ g 17 := fun z => f3' (.inl (.inr (.inr (.inr (.inr (.inr (.inl z)))))))
      have c1 : g 6 ≠ g 0 := ins_earl_ne hk1.1 hk1.2.2.2.1
      have c2 : g 8 ≠ g 0 := ins_lst_ne hk1.1 hk1.2.2.2.2.1
      have c3 : g 6 ≠ g 8 := hk1.2.2.2.2.2
      have c4 : g 13 ≠ g 1 := ins_earl_ne hk2.1 hk2.2.2.2.1
      have c5 : g 17 ≠ g 1 := ins_lst_ne hk2.1 hk2.2.2.2.2.1
      have c6 : g 13 ≠ g 17 := hk2.2.2.2.2.2
      show [p, q, g 3, g 0, g 6, g 8, g 1, g 13, g 17].Nodup
      simp only [List.nodup_cons, List.mem_cons, List.not_mem_nil, or_false, not_or, List.nodup_nil, not_false_eq_true, and_true]
      exact ⟨⟨hpq, hp0 3, hp0 0, hp0 6, hp0 8, hp0 1, hp0 13, hp0 17⟩, ⟨hq0 3, hq0 0, hq0 6, hq0 8, hq0 1, hq0 13, hq0 17⟩, ⟨b1, b2, b3, b4, b5, b6⟩, ⟨c1.symm, c2.symm, a1.symm, a4.symm, a7.symm⟩, ⟨c3, a2.symm, a5.symm, a8.symm⟩, ⟨a3.symm, a6.symm, a9.symm⟩, ⟨c4.symm, c5.symm⟩, c6⟩
    have hFx5 : Fx g H5 := ⟨set_mv hset4 (Mv.of_same e5 : Mv [] H4 H5) (by simp), bookN_h hk1, bookN_h hk2⟩
    have hb5 := (bagA K p q cells s4).mono e5 hb4
    have Fx_mv : ∀ {H H' : Hp} {Sx : List Addr}, Fx g H → Mv Sx H H' → (∀ x ∈ Sx, Lk K H x) → (∀ x ∈ Sx, x ∉ [g 0, g 6, g 8, g 1, g 13, g 17]) → Fx g H' := fun {H H' Sx} h m lk n => ⟨set_mv h.1 m lk, h.2.1.mv m lk (fun z => n _ z (by simp)) (fun z => n _ z (by simp)) (fun z => n _ z (by simp)), h.2.2.mv m lk (fun z => n _ z (by simp)) (fun z => n _ z (by simp)) (fun z => n _ z (by simp))⟩
    have hM5 : (M4.owns ([6, 8, 13, 17, 3].map g)).c p := .inl hM4
    have hMr : (M4.owns ([6, 8, 13, 17, 3].map g)).c (g 3) := .inr (by simp)
    have own5 : ownL K (M4.owns ([6, 8, 13, 17, 3].map g)) H5 (g 3) [] := by
      obtain ⟨_, xs, h1, h2⟩ := hl
      cases h2
      exact ⟨[], h1, .nil⟩
    generalize M4.owns ([6, 8, 13, 17, 3].map g) = M5 at *
    obtain ⟨d1, d2, d3⟩ := drawM_ok (many := 9) ok4 (by decide)
    have npb : ∀ x ∈ [p], x ∉ [g 0, g 6, g 8, g 1, g 13, g 17] := fun x hx z => by
      rw [List.mem_singleton.mp hx] at z
      simp only [List.mem_cons, List.not_mem_nil, or_false] at z
      rcases z with z | z | z | z | z | z <;> exact hp0 _ z
    have nrb : g 3 ∉ [g 0, g 6, g 8, g 1, g 13, g 17] := by
      have h : [p, q, g 3, g 0, g 6, g 8, g 1, g 13, g 17].Nodup := hDs
      exact (List.nodup_cons.mp (List.nodup_cons.mp (List.nodup_cons.mp h).2).2).1
    refine p_weakS (δ' := δE g 1) (by repeat (first | exact .nil | refine .yes ?_ | refine .no ?_)) (p_for (fun (i : Nat) => D.int (i : Nat)) (List.range (drawM cells s4 9).1.toNat) (fun i H δ => ∃ (now : Int) (es : Log), δ = δE g now ∧ BagH K p q cells H ∧ Fx g H ∧ ownL K M5 H (g 3) (es.map entL) ∧ EntsOk names puts es now ∧ es.length = i ∧ now ≤ 1 + 4 * (i : Nat)) (g := gName 13) (js := [13]) (tf := fOne 13) PassesOwn.never rfl
      (i_range (q0 := ⟨0, 0, 0, 0⟩) (n_range T) (e_drawH T hr1 hM5 hpq ok4 hb5 (by decide) (by decide) (fun A => e_var 1) e_int) (by omega) (by omega)) (fun H6 k6 t6 c6 => ⟨1, [], rfl, ⟨_, d1, c6.2⟩, Fx_mv hFx5 c6.1 (fun x hx => (List.mem_singleton.mp hx) ▸ lst_lk hb5.1) npb, own5.mv c6.1 k6 (fun z => hp0 3 (List.mem_singleton.mp z).symm), ⟨fun e he => (by cases he), List.pairwise_singleton _ _, fun e he => (by cases he), Int.le_refl _⟩, rfl, by decide⟩) (pg_name (i := 13) sc_law.nd rfl (Or.inl rfl)) (tg_name 13)
      (fun i b H6 δ1 hb k6 ⟨now, es, e0, ⟨s6, ok6, hb6⟩, hfx, hown, hents, hlen, hnow⟩ => ⟨(δE g now).set 13 (some (.int (b : Nat))), by rw [e0] <;> rfl, fun H7 e7 k7 t7 => ?_⟩) fun H6 δ1 k6 iv => ?_)
    · have hb7 := (bagA K p q cells s6).mono e7 hb6
      have hfx7 := Fx_mv hfx (Mv.of_same e7 : Mv [] H6 H7) (by simp) (by simp)
      have hown7 := hown.mv (Mv.of_same e7 : Mv [] H6 H7) (.of_same e7) (by simp)
      obtain ⟨m1, m2, m3⟩ := drawM_ok (many := 4) ok6 (by decide)
      obtain ⟨q1, q2, q3⟩ := someM_ok (names := names) m1 (by omega)
      have hi8 : i < 9 := by
        have := (List.getElem?_eq_some_iff.mp hb).1
        rw [List.length_range] at this
        omega
      refine p_nx (B := (As.mv [p] H7).and (bagA K p q cells (drawM cells s6 4).2)) (s_set 11 sc_law.nd (e_add (e_add (e_var 11) e_int) (e_drawH T hr1 hM5 hpq ok6 hb7 (by decide) (by decide) (fun A => e_var 1) e_int))) fun H8 k8 t8 c8 => ?_
      have hfx8 := Fx_mv hfx7 c8.1 (fun x hx => (List.mem_singleton.mp hx) ▸ lst_lk hb7.1) npb
      have hown8 := hown7.mv c8.1 k8 (fun z => hp0 3 (List.mem_singleton.mp z).symm)
      refine p_cons (φ1 := fun H δ => δ = ((δE g now).set 13 (some (.int (b : Nat)))).set 11 (some (.int (now + 1 + (drawM cells s6 4).1))) ∧ BagH K p q cells H ∧ Fx g H ∧ ownL K M5 H (g 3) ((es ++ [(now + 1 + (drawM cells s6 4).1, (someM cells names (drawM cells s6 4).2).2)]).map entL))
        (p_app (ds := es.map entL) (S := [p]) (d := entL (now + 1 + (drawM cells s6 4).1, (someM cells names (drawM cells s6 4).2).2)) (C := (As.mv [p] H8).and (bagA K p q cells (someM cells names (drawM cells s6 4).2).1)) (e_var 12)
          (e_tup (a_cons (e_var 11) (a_one (c_call (h_some T) (hr.mono (by decide)) (g_law_some T) (a_cons (e_var 1) (a_one (e_var 4))) (spW_ok (fun H c => ⟨p, q, cells, (drawM cells s6 4).2, names, rfl, (bagA K p q cells _).mono c c8.2, hM5, hpq, m1, by omega, by omega, rfl, rfl, rfl⟩) fun H H' c m k => ⟨(Mv.of_same c).trans m, k⟩)))))
          (fun H c => c.1) hMr (fun z => hp0 3 (List.mem_singleton.mp z).symm) hown8 (by rw [List.length_map, hlen]; exact Nat.lt_trans hi8 (by decide)) fun H u k c ho mv e => ⟨rfl, ⟨_, q1, bag_upd c.2 e (fun z => hp0 3 z.symm) (fun z => hq0 3 z.symm)⟩, Fx_mv hfx8 mv (fun x hx => ?_) (fun x hx => ?_), ?_⟩) fun H9 δ9 k9 t9 ⟨e9, f9⟩ => ?_
      · rcases List.mem_cons.mp hx with z | z
        · obtain ⟨acc, e, _⟩ := hown8
          rw [z]; exact .inl ⟨acc, e⟩
        · rw [List.mem_singleton.mp z]; exact lst_lk c8.2.1
      · rcases List.mem_cons.mp hx with z | z
        · rw [z]; exact nrb
        · exact npb x z
      · rw [List.map_append]
        exact ho
      · subst e9
        refine p_nilW (δ' := δE g (now + 1 + (drawM cells s6 4).1)) (by repeat (first | exact .nil | refine .yes ?_ | refine .no ?_)) ⟨_, _, rfl, f9.1, f9.2.1, f9.2.2, hents.snoc m2 q2 q3, ?_, ?_⟩
        · rw [List.length_append, hlen] <;> rfl
        · have : ((i + 1 : Nat) : Int) = (i : Int) + 1 := rfl
          omega
    · obtain ⟨now, es, h1, h2, h3, h4, h5, h6, h7⟩ := iv
      rw [List.length_range] at h6 h7
      exact ⟨now, es, h1, h2, h3, hDs, h4, h5, by omega, by omega⟩
  · obtain ⟨now, es, e5, hbag5, hfx5, hDs, hown5, hents, hlen, hnow⟩ := c5
    subst e5
    have h3 : g 3 ∉ [6, 8, 13, 17].map g := by
      have h : [p, q, g 3, g 0, g 6, g 8, g 1, g 13, g 17].Nodup := hDs
      have := (List.nodup_cons.mp (List.nodup_cons.mp (List.nodup_cons.mp h).2).2).1
      intro z
      exact this (by simp at z ⊢; rcases z with z | z | z | z <;> simp [z])
    refine ⟨12, 3, es.map entL, rfl, hown5, h3, ?_⟩
    have hnd8 : [p, q, g 0, g 6, g 8, g 1, g 13, g 17].Nodup := by
      have h : [p, q, g 3, g 0, g 6, g 8, g 1, g 13, g 17].Nodup := hDs
      exact h.sublist (by repeat (first | exact List.Sublist.slnil | refine List.Sublist.cons_cons _ ?_ | refine List.Sublist.cons _ ?_))
    exact h_tail T cdv A outer s Hs E hr (M := M4.owns ([6, 8, 13, 17].map g)) (e1 := g 6) (u1 := g 8) (e2 := g 13) (u2 := g 17) (.inl hM4) ⟨.inr (by simp), .inr (by simp)⟩ ⟨.inr (by simp), .inr (by simp)⟩ hnd8 hbag5 hfx5.1 okS ndS hfx5.2.1 hfx5.2.2 ⟨hfence, hnames, hputs, hents.ents, hents.so⟩ hlen ⟨hents.pos, hnow⟩
end
end RQ
set_option Elab.async false
set_option linter.all false
set_option maxRecDepth 100000
set_option maxHeartbeats 4000000
namespace Dx
open PySem PySem.Spec PyProof.Rows L2
theorem Weak.set {δ δ' : LS} (h : Weak δ δ') (i : Nat) (x : Option D) : Weak (δ.set i x) (δ'.set i x) := by
  induction h generalizing i with
  | nil => exact .nil
  | no h ih =>
    cases i with
    | zero => exact .yes h
    | succ i => exact .no (ih i)
  | yes h ih =>
    cases i with
    | zero => exact .yes h
    | succ i => exact .yes (ih i)
end Dx
namespace RQ
open PySem PySem.Spec PyProof.Rows L2 Dx
section
variable {P : Program} {w : World} {K : PySem.W.Frag} {mg : Str → Option Value} {base : Heap}
def spLaw (K : PySem.W.Frag) : Sp := fun vs H Q _ => ∃ (a : Addr) (ns : List Int), vs = [.ref a] ∧ SqL K H a (ns.map V.int) ∧ ∀ H', Q (.bl true) H'
set_option maxHeartbeats 40000000 in
theorem ok_law (T : Txt K mg) {fd : FuncData} (F : FunD K "law" "law" (defArgs s_law) (defBody s_law) (defScope s_law) [] [] (atG "law" K) fd) : FnOk P w K mg base CX0 11 (atG "law" K) fd ["_law_script"] (spLaw K) := by
  refine F.ok sc_law (fun vs H Q E h => ?_) fun cdv A outer s H vs Q E hr h => ?_
  · obtain ⟨_, _, rfl, _⟩ := h
    rfl
  · obtain ⟨a, ns, rfl, hsq, q⟩ := h
    have hb : PSs (XL P w K mg base cdv A outer s H E) (defBody s_law) (tO K AS.no (As.same H) (startD NW [.ref a]) (.rt (As.pure True) (.bl true))) := by
      refine ss_own [0] (f_set 1 sc_law.nd (g_call (h_bag T) (hr.mono (by decide)) (g_law_bag T) (a_one (e_var 0)) (spWG_ok (G := fun g => (bagA K (g 0) (g 1) (cellsM ns) bag0).and (As.pure (g 0 ≠ g 1))) (fun H1 c => ⟨a, ns, rfl, sql_same hsq c, rfl, rfl, rfl⟩) fun g H1 H' n c m k => k)) (fun g => rfl)) (fun g H1 c j hj => ?_) (fun g nM => ?_)
      · cases List.mem_singleton.mp hj
        exact (bagA K (g 0) (g 1) (cellsM ns) bag0).trk c.1 (.inl rfl)
      · have hM : (AS.no.owns ([0].map g)).c (g 0) := .inr (by simp)
        generalize AS.no.owns ([0].map g) = M at *
        refine ss_forRt (fun H0 c t => p_weakS (δ' := δ0 (g 0)) (by repeat (first | exact .nil | refine .yes ?_ | refine .no ?_)) (p_for (fun (i : Nat) => D.int (i : Nat)) (List.range 3) (fun i H δ => BagH K (g 0) (g 1) (cellsM ns) H ∧ Weak δ (δ0 (g 0))) (g := gName 2) (js := [2]) (tf := fOne 2) PassesOwn.never rfl
          (i_range (q0 := ⟨0, 0, 0, 0⟩) (n := 3) (n_range T) e_int (by decide) (by decide)) (fun H1 k1 t1 e1 => ⟨⟨bag0, bag0_ok ns, (bagA K (g 0) (g 1) (cellsM ns) bag0).mono e1 c.1⟩, Weak.self _⟩) (pg_name (i := 2) sc_law.nd rfl (Or.inl rfl)) (tg_name 2)
          (fun i b H1 δ1 hb k1 ⟨bh, wk⟩ => ⟨δ1.set 2 (some (.int (b : Nat))), rfl, fun H2 e2 k2 t2 => p_weak (wk.set 2 _) (h_turn T cdv A outer s H E hr hM c.2 (bh.mv (Mv.of_same e2 : Mv [] H1 H2) (by simp) (by simp)))⟩) fun _ _ _ _ => trivial))
          fun δ' => ss_one (s_ret e_bl)
    refine ⟨_, hb.nox, ⟨Same.refl H, fun a h => h.elim, .start (.cons (.ref a) .nil)⟩, fun v H' k b rv => ?_⟩
    cases rv
    exact q H'
end
end RQ
set_option Elab.async false
set_option linter.all false
set_option maxRecDepth 100000
set_option maxHeartbeats 0
namespace RQ
open PySem PySem.Spec PyProof.Rows L2
/-! ### the head -/
def isCode (o : Obj) : Bool := match o.cls with
  | .type n => decide (n = "code")
  | _ => false
def grow1 (g : Addr → Option Obj) (as : List Addr) : List Addr := as.flatMap fun a => match g a with
  | some o => if isCode o then [] else He.refsD o
  | none => []
def as5 (g : Addr → Option Obj) : List Addr :=
  let l1 := (grow1 g [mainGlobals]).eraseDups
  let l2 := (grow1 g l1).eraseDups
  let l3 := (grow1 g l2).eraseDups
  let l4 := (grow1 g l3).eraseDups
  let l5 := (grow1 g l4).eraseDups
  mainGlobals :: (l1 ++ (l2 ++ (l3 ++ (l4 ++ l5)))).eraseDups
abbrev Al : Type := He.AlD × Bool
def obs (g : Addr → Option Obj) : Al := (He5.obsA fa fn (He.frG g (as5 g)), ex.all fun b => b (He.frG g (as5 g)))
def hk : PySem.W.Hook where
  α := Al
  obs := fun s => obs s.heap.get?
  val := fun _ => (He5.valA fn, true)
  says := fun _ h => ∃ K : PySem.W.Frag, K.In h ∧ (He5.SaysA fa fn K ∧ (ex.all fun b => b K) = true)
  of := fun _ _ e => ⟨_, He.frG_in, congrArg (fun z : Al => z.1) e, congrArg (fun z : Al => z.2) e⟩
  keeps := fun _ _ _ ⟨K, hK, c⟩ k => ⟨K, PySem.W.Frag.In.keeps hK k, c⟩
abbrev R : PySem.W.OpenRow := PySem.W.OpenLaw.row PySem.Challenge.rw_rowqueue_k07_whole_late_in_any_order
def ob (s : PySem.W.SharedT) : Al := obs (HandSHeadRun.getT s)
theorem ob_eq (s : PySem.W.SharedT) : ob s = hk.obs s.abs := by
  have e : HandSHeadRun.getT s = s.abs.heap.get? := funext (HandSHeadRun.getT_eq s)
  unfold ob
  rw [e] <;> rfl
def loose1 : List PySem.Str := ["_wall", "QueueError", "Wrong", "BadLine", "NoPlan", "Past", "Known", "NoRow", "NoOrigin", "Stale", "TooMany", "Stopped", "Nothing", "FREE", "BUSY", "DEAD", "AWAY", "ordered", "is_open", "is_barred", "batch", "is_integer", "MOST_NAMES", "fallen", "settled", "word_for", "taken_names", "is_remembered", "Change", "Queue"]
def loose2 : List PySem.Str := ["TAKE", "WORDS", "MOST_PARTS", "is_part", "is_plan", "read_plan", "VALUES", "is_plan_text", "is_value", "is_line", "word_of", "first_bad", "number_or_word", "Setting", "MOST_TRANSACTIONS", "Book", "_law_bag", "_law_take", "_law_lines", "_law_names", "_law_shown", "_law_some"]
def loose : List PySem.Str := loose1 ++ loose2

theorem run (w : World) : HandSHeadRun.RunEq R (PySem.W.view R.prog [60]) hk ob 12000 loose w := by
  intro os
  kernel_rfl
end RQ
set_option Elab.async false
set_option linter.all false
set_option maxRecDepth 100000
set_option maxHeartbeats 0
namespace RQ
open PySem PySem.Spec PyProof.Rows L2
theorem law_facts {P : Program} {w : World} {K : PySem.W.Frag} {h : Heap} {mg : Str → Option Value} {f : Addr} (X : K.In h) (G : h.Ns mainGlobals mg) (hfa : mg ("law" : Str) = some (.ref f)) (c : He5.SaysA fa fn K) (m : (ex.all fun b => b K) = true) :
    ∃ fd : FuncData, (∀ (s : Shared) (v : Value), BindsTo s fd ⟨[v], []⟩ [("_law_script", v)]) ∧ ∀ base : Heap, K.In base → base.Ns mainGlobals mg → FnOk P w K mg base CX0 11 f fd ["_law_script"] (spLaw K) := by
  have T : Txt K mg := ⟨⟨h, X, G⟩, c, m⟩
  obtain ⟨fd, F⟩ := f_law T
  have e := hfa.symm.trans (g_law T)
  cases e
  have b := FunD.bindsA (ps := ["_law_script"]) F fun _ _ _ _ _ _ us hl => match us, hl with | [_], _ => rfl
  exact ⟨fd, fun s v => b s [v] rfl, fun base _ _ => ok_law T F⟩
end RQ
open PySem PySem.W PySem.Calls PyProof.Rows
theorem PySem.Challenge.cw_rowqueue_k07_whole_late_in_any_order_holds : PySem.Challenge.rw_rowqueue_k07_whole_late_in_any_order.Holds := by
  w_on; o_law
  refine HandSHeadRun.head_any (r := OpenLaw.row PySem.Challenge.rw_rowqueue_k07_whole_late_in_any_order) (q := view (OpenLaw.row PySem.Challenge.rw_rowqueue_k07_whole_late_in_any_order).prog [60]) (H := RQ.hk) (ob := RQ.ob) (M := 12000) (loose := RQ.loose) (d := HandSHeadRun.topDef (OpenLaw.row PySem.Challenge.rw_rowqueue_k07_whole_late_in_any_order).prog 60) (kwd := []) RQ.ob_eq
    (by kernel_rfl) (fun s => by kernel_rfl) RQ.run (by kernel_rfl) (by kernel_rfl) (by kernel_rfl) (by rfl) (by first | assumption | decide +kernel) (by decide +kernel) ⟨rfl, rfl, rfl, rfl, rfl, by decide +kernel⟩ ?hw ?hc
  case hw => w_witness2
  case hc =>
    refine L2.walk_ofE (l := PySem.Challenge.rw_rowqueue_k07_whole_late_in_any_order) (n := 63) (k := 11) (x := "_law_script") (CX := L2.CX0) rfl (by decide) (by kernel_rfl) ⟨rfl, by decide, by decide⟩ ?F (fun _ _ _ _ z => z)
    intro w mg fa h Y G hmg0
    obtain ⟨K, KX, c, m⟩ := Y
    have hmg : mg ("law" : PySem.Str) = some (.ref fa) := by
      have e : (HandSHeadRun.topDef (OpenLaw.row PySem.Challenge.rw_rowqueue_k07_whole_late_in_any_order).prog 60).name = ("law" : PySem.Str) := by kernel_rfl
      rw [← e]
      exact hmg0
    obtain ⟨fd, hb, hF⟩ := RQ.law_facts (P := (PySem.Challenge.rw_rowqueue_k07_whole_late_in_any_order).prog) (w := w) KX G hmg c m
    exact ⟨K, fd, RQ.spLaw K, KX, hb, fun H a ns hl _ hS => ⟨a, ns, rfl, hS, fun _ => rfl⟩, hF⟩
