import PyProof.Rows.All
import Wide.All
import OpenK.AllK
import Wide.FinOn
import HandS.ForMost
import HandS.ForExc
import KE.KDictCopyH
import HandS.TupAny
import HandS.TupLe
import HandS.RevRange
import HandS.SetFor
import HandS.SortInts
import HandS.Strs
import HandS.IsInst
import KE.DatumOrd
import HandS.Conv
import HandS.Rev
import HandS.ExcValue
import HandS.Dict
import HandS.DictEq
import HandS.Iter
import HandS.WordsDict
import HandS.ExcInit
import HandS.ExcField
import HandS.ExcOwn
import KE.KExcIs
import HandS.Text
import HandS.Deep
import HandS.Comp
import PySem.Challenge.RW_fontfall_k14_texts_that_tell_no_case
set_option Elab.async false
set_option linter.all false
set_option maxRecDepth 100000
/-! A layer over the hand layer: values as trees of data (D), slots, and readings in which no heap stands. -/
namespace HD
open PySem PySem.Spec PyProof.Rows L2

inductive D where
  | non | bl (b : Bool) | int (i : Int) | str (s : Str) | tup (ds : List D) | lst (ds : List D) | obj (ds : List D) | row
  /-- a dict that is not written any more, its keys ints or None -/
  | dic (o : Obj) (ks : List (Option Int)) (ds : List D)
  /-- a list that is not written any more -/
  | fls (ds : List D)

/-- what the top has written that the data speak of -/
structure Gp where
  K : PySem.W.Frag
  cC : Addr
  xCase : Addr
  xSign : Addr
  xRow : Addr
  xChange : Addr
  xText : Addr

mutual
def D.flat : D → Bool
  | .tup ds => D.flats ds
  | .lst _ => false
  | .obj ds => D.flats ds
  | .dic _ _ ds => D.flats ds
  | .fls ds => D.flats ds
  | _ => true
def D.flats : List D → Bool
  | [] => true
  | d :: ds => d.flat && D.flats ds
end

structure SameR (r : Option Addr) (H H' : Hp) : Prop where
  keep : ∀ b o, some b ≠ r → H b = some o → H' b = some o
  there : ∀ b, H' b = none → H b = none
theorem SameR.refl {r H} : SameR r H H := ⟨fun _ _ _ h => h, fun _ h => h⟩
theorem SameR.trans {r H H1 H2} (a : SameR r H H1) (b : SameR r H1 H2) : SameR r H H2 := ⟨fun c o n h => b.keep c o n (a.keep c o n h), fun c h => a.there c (b.there c h)⟩
theorem SameR.new {r H p o} (h : H p = none) : SameR r H (upd H p o) := ⟨fun b u _ e => by rw [upd_ne (ne_of_none e h)]; exact e, fun b e => by
  by_cases hb : b = p
  · rw [hb]; exact h
  · rw [upd_ne hb] at e; exact e⟩
theorem SameR.mut {r : Option Addr} {H H' : Hp} {p : Addr} {o : HO} (e : SameR r H H') (h : H p = none) : SameR r H (upd H' p o) := ⟨fun b u n q => by rw [upd_ne (ne_of_none q h)]; exact e.keep b u n q, fun b q => by
  by_cases hb : b = p
  · rw [hb]; exact h
  · rw [upd_ne hb] at q; exact e.there b q⟩

def KnownL (K : PySem.W.Frag) (a : Addr) (xs : List V) : Prop := ∃ (o : Obj) (its : Array Value) (n : Nat), K.lookup a = some o ∧ o.cls = .type "list" ∧ o.dict = none ∧ o.data = .seq its n ∧ its.size ≤ sizeLine ∧ Vals xs its.toList
def ScrOk (K : PySem.W.Frag) (H : Hp) (s : Addr) (ns : List Int) : Prop := (∃ o, H s = some (.frz o (.lst (ns.map V.int)))) ∨ KnownL K s (ns.map V.int)
def RowOk (K : PySem.W.Frag) (r : Option Addr) (H : Hp) : Prop := ∀ a, r = some a → ∃ (s : Addr) (ns : List Int) (i j k : Int),
  H a = some (.lst [.ref s, .int i, .int j, .int k]) ∧ ScrOk K H s ns ∧ 0 ≤ i ∧ 0 ≤ j ∧ j < 2147483647 ∧ 0 ≤ k

/-! ### dicts of ints and None as keys -/
def lk : Option Int → Leaf
  | none => .none
  | some i => .num i
def lkV : Option Int → V
  | none => .non
  | some i => .int i
theorem lk_inj {a b : Option Int} (h : lk a = lk b) : a = b := by
  cases a <;> cases b <;> first | rfl | (cases h; done) | (cases h; rfl)
def okIs : Option Int → Value → Bool
  | none, .none => true
  | some i, .int j _ => decide (j = i)
  | _, _ => false
theorem okIs_leaf : ∀ {k : Option Int} {v : Value}, okIs k v = true → (lk k).isOf v = true
  | none, v, e => by cases v <;> first | rfl | exact absurd e Bool.false_ne_true
  | some i, v, e => by cases v <;> first | exact e | exact absurd e Bool.false_ne_true
theorem okIs_rel : ∀ {k : Option Int} {v : Value}, okIs k v = true → RelV (lkV k) v
  | none, v, e => by cases v <;> first | rfl | exact absurd e Bool.false_ne_true
  | some i, v, e => by
    cases v with
    | int j t => exact ⟨t, by rw [of_decide_eq_true e]⟩
    | _ => exact absurd e Bool.false_ne_true
theorem okIs_of {k : Option Int} {u : Value} (h : RelV (lkV k) u) : okIs k u = true := by
  cases k with
  | none => cases (show u = Value.none from h); rfl
  | some i =>
    obtain ⟨t, rfl⟩ := (show ∃ t, u = Value.int i t from h)
    exact decide_eq_true rfl
theorem leaf_one {a b : Leaf} {v : Value} (h : a.isOf v = true) (h' : b.isOf v = true) : a = b := Leaf.key_inj (NestedIs.inj (h := default) _ _ v (Leaf.nested h) (Leaf.nested h'))
def hk : Option Int → Int
  | none => reduceHash 0xFCA86420
  | some i => hashInt i
theorem hk_eq (w : World) : ∀ k : Option Int, (lk k).key.hash w = hk k
  | none => rfl
  | some _ => rfl
/-- keys that are ints or None -/
def optKind (prog : Program) (w : World) : KeyKind prog w (Option Int) where
  is := okIs
  hash := hk
  inj := fun v a b ha hb => lk_inj (leaf_one (okIs_leaf ha) (okIs_leaf hb))
  byValue := fun _ _ h => Leaf.byValue (okIs_leaf h)
  pyHash := fun hv h => pyHash_leaf (okIs_leaf hv) (by rw [hk_eq]; exact h)
  eqBool := fun {A E s a b u v Q} hu hv h => eqAt_leaf (okIs_leaf hu) (okIs_leaf hv) _ _ _ _ (by
    have e : decide (lk a = lk b) = decide (a = b) := by
      by_cases q : a = b
      · rw [decide_eq_true q, decide_eq_true (by rw [q])]
      · rw [decide_eq_false q, decide_eq_false fun z => q (lk_inj z)]
    rw [e]; exact h)
  «strs» := fun k x t v h => by
    cases k <;> exact absurd h Bool.false_ne_true
def Ent (k : Option Int) (v : Value) (e : DictEntry) : Prop := okIs k e.key = true ∧ e.val = v ∧ e.hash = hk k
inductive Ents : List (Option Int) → List Value → List DictEntry → Prop where
  | nil : Ents [] [] []
  | cons {k : Option Int} {v : Value} {e : DictEntry} {ks : List (Option Int)} {vs : List Value} {es : List DictEntry} : Ent k v e → Ents ks vs es → Ents (k :: ks) (v :: vs) (e :: es)
/-- the object of a dict, its keys, its values -/
def Good (o : Obj) (ks : List (Option Int)) (xs : List V) : Prop := ∃ (es : Array DictEntry) (ep : Nat) (vs : List Value), o.ExactDict ∧ o.data = .dict es ep ∧ Vals xs vs ∧ ks.length ≤ sizeLine ∧ ks.Nodup ∧ Ents ks vs es.toList
theorem ok_one {a b : Option Int} {v : Value} (h : okIs a v = true) (h' : okIs b v = true) : a = b := lk_inj (leaf_one (okIs_leaf h) (okIs_leaf h'))
theorem ents_inj : ∀ {es : List DictEntry} {ks ks' : List (Option Int)} {vs vs' : List Value}, Ents ks vs es → Ents ks' vs' es → ks = ks' ∧ vs = vs'
  | _, _, _, _, _, .nil, .nil => ⟨rfl, rfl⟩
  | _, _, _, _, _, .cons a h, .cons b h' => by
    obtain ⟨q1, q2⟩ := ents_inj h h'
    rw [q1, q2, ok_one a.1 b.1, a.2.1.symm.trans b.2.1]
    exact ⟨rfl, rfl⟩
theorem Ents.len : ∀ {es : List DictEntry} {ks : List (Option Int)} {vs : List Value}, Ents ks vs es → ks.length = vs.length ∧ es.length = vs.length
  | _, _, _, .nil => ⟨rfl, rfl⟩
  | _, _, _, .cons _ h => ⟨congrArg Nat.succ h.len.1, congrArg Nat.succ h.len.2⟩
theorem Ents.pairs {P : Program} {w : World} : ∀ {es : List DictEntry} {ks : List (Option Int)} {vs : List Value}, Ents ks vs es → Pairs (optKind P w) es (ks.zip vs)
  | _, _, _, .nil => .nil
  | _, _, _, .cons a h => .cons a.1 a.2.1 h.pairs
theorem Ents.keys {P : Program} {w : World} : ∀ {es : List DictEntry} {ks : List (Option Int)} {vs : List Value}, Ents ks vs es → ∀ e ∈ es, ∃ k, (optKind P w).is k e.key = true ∧ e.hash = (optKind P w).hash k
  | _, _, _, .nil, _, h => nomatch h
  | _, _, _, .cons (k := k) a h, e, he => by
    rcases List.mem_cons.mp he with q | q
    · subst q
      exact ⟨k, a.1, a.2.2⟩
    · exact h.keys e q
theorem Ents.of {P : Program} {w : World} : ∀ {es : List DictEntry} {ks : List (Option Int)} {vs : List Value}, ks.length = vs.length → Pairs (optKind P w) es (ks.zip vs) →
    (∀ e ∈ es, ∃ k, (optKind P w).is k e.key = true ∧ e.hash = (optKind P w).hash k) → Ents ks vs es
  | _, [], [], _, .nil, _ => .nil
  | _, k :: ks, v :: vs, hl, .cons h1 h2 h3, hk => by
    refine .cons ⟨h1, h2, ?_⟩ (Ents.of (Nat.succ.inj hl) h3 fun e he => hk e (List.mem_cons_of_mem _ he))
    obtain ⟨k', q1, q2⟩ := hk _ List.mem_cons_self
    rw [q2, ok_one (a := k') (b := k) q1 h1]
    rfl
theorem vals_inj : ∀ {xs ys : List V} {vs : List Value}, Vals xs vs → Vals ys vs → xs = ys
  | _, _, _, .nil, .nil => rfl
  | _, _, _, .cons r t, .cons r' t' => by rw [RelV.inj r r', vals_inj t t']
theorem Good.inj {o : Obj} {ks ks' : List (Option Int)} {xs xs' : List V} (h : Good o ks xs) (h' : Good o ks' xs') : ks = ks' ∧ xs = xs' := by
  obtain ⟨es, ep, vs, _, e, r, _, _, q⟩ := h
  obtain ⟨es', ep', vs', _, e', r', _, _, q'⟩ := h'
  rw [e] at e'
  cases e'
  obtain ⟨q1, q2⟩ := ents_inj q q'
  subst q2
  exact ⟨q1, vals_inj r r'⟩
/-- .. that may be written -/
def DicO (p : Addr) (ks : List (Option Int)) (xs : List V) : HO := .ext fun h => (p == sysModules) = false ∧ ∃ o, h.get? p = some o ∧ Good o ks xs

mutual
def Rep (G : Gp) (r : Option Addr) (P : Addr → Prop) (H : Hp) : D → V → Prop
  | .non, v => v = .non
  | .bl b, v => v = .bl b
  | .int i, v => v = .int i
  | .str s, v => v = .str s
  | .tup ds, v => ∃ a xs, v = .ref a ∧ H a = some (.tup xs) ∧ Reps G r P H ds xs
  | .lst ds, v => ∃ a xs, v = .ref a ∧ P a ∧ H a = some (.lst xs) ∧ Reps G r P H ds xs
  | .obj ds, v => ∃ a dx l o xs, v = .ref a ∧ H a = some (.ins G.cC dx [("kept_faces", .ref l)]) ∧ H l = some (.frz o (.lst xs)) ∧ Reps G r P H ds xs
  | .row, v => ∃ a, v = .ref a ∧ r = some a
  | .dic o ks ds, v => ∃ a u xs, v = .ref a ∧ H a = some (.frz o u) ∧ (a == sysModules) = false ∧ (Good o ks xs ∧ ∀ ys, u ≠ .lst ys) ∧ Reps G r P H ds xs
  | .fls ds, v => ∃ a o xs, v = .ref a ∧ H a = some (.frz o (.lst xs)) ∧ Reps G r P H ds xs
def Reps (G : Gp) (r : Option Addr) (P : Addr → Prop) (H : Hp) : List D → List V → Prop
  | [], xs => xs = []
  | d :: ds, xs => ∃ x ys, xs = x :: ys ∧ Rep G r P H d x ∧ Reps G r P H ds ys
end

/-- what may be changed in place -/
def Mov : HO → Prop
  | .lst _ => True
  | .dK _ => True
  | .dT _ => True
  | .ext _ => True
  | _ => False

section
variable {G : Gp} {r : Option Addr} {P P' : Addr → Prop} {H H' : Hp}
theorem frz_not {S : Addr → Prop} {a : Addr} {o : Obj} {u : HO} (hS : ∀ a, S a → ∃ o, H a = some o ∧ Mov o) (h : H a = some (.frz o u)) : ¬ S a := fun hs => by
  obtain ⟨o, e, m⟩ := hS a hs
  rw [h] at e; cases e; exact m
theorem tup_not {S : Addr → Prop} {a : Addr} {xs : List V} (hS : ∀ a, S a → ∃ o, H a = some o ∧ Mov o) (h : H a = some (.tup xs)) : ¬ S a := fun hs => by
  obtain ⟨o, e, m⟩ := hS a hs
  rw [e] at h; cases h; exact m
mutual
theorem Rep.keep {S : Addr → Prop} (hS : ∀ a, S a → ∃ o, H a = some o ∧ Mov o) (k : ∀ b o, ¬ S b → H b = some o → H' b = some o) (hP : ∀ a, P a → ¬ S a ∧ P' a) : ∀ (d : D) (v : V), Rep G r P H d v → Rep G r P' H' d v
  | .non, _, h => by unfold Rep at h ⊢; exact h
  | .bl _, _, h => by unfold Rep at h ⊢; exact h
  | .int _, _, h => by unfold Rep at h ⊢; exact h
  | .str _, _, h => by unfold Rep at h ⊢; exact h
  | .row, _, h => by unfold Rep at h ⊢; exact h
  | .tup ds, v, h => by
    unfold Rep at h ⊢
    obtain ⟨a, xs, e, h1, h2⟩ := h
    exact ⟨a, xs, e, k _ _ (tup_not hS h1) h1, Reps.keep hS k hP ds xs h2⟩
  | .lst ds, v, h => by
    unfold Rep at h ⊢
    obtain ⟨a, xs, e, hp, h1, h2⟩ := h
    exact ⟨a, xs, e, (hP a hp).2, k _ _ (hP a hp).1 h1, Reps.keep hS k hP ds xs h2⟩
  | .obj ds, v, h => by
    unfold Rep at h ⊢
    obtain ⟨a, dx, l, o, xs, e, hi, h1, h2⟩ := h
    refine ⟨a, dx, l, o, xs, e, k _ _ (fun hs => ?_) hi, k _ _ (frz_not hS h1) h1, Reps.keep hS k hP ds xs h2⟩
    obtain ⟨o, e, m⟩ := hS a hs
    rw [e] at hi; cases hi; exact m
  | .dic o ks ds, v, h => by
    unfold Rep at h ⊢
    obtain ⟨a, u, xs, e, h1, h2, h3, h4⟩ := h
    exact ⟨a, u, xs, e, k _ _ (frz_not hS h1) h1, h2, h3, Reps.keep hS k hP ds xs h4⟩
  | .fls ds, v, h => by
    unfold Rep at h ⊢
    obtain ⟨a, o, xs, e, h1, h4⟩ := h
    exact ⟨a, o, xs, e, k _ _ (frz_not hS h1) h1, Reps.keep hS k hP ds xs h4⟩
theorem Reps.keep {S : Addr → Prop} (hS : ∀ a, S a → ∃ o, H a = some o ∧ Mov o) (k : ∀ b o, ¬ S b → H b = some o → H' b = some o) (hP : ∀ a, P a → ¬ S a ∧ P' a) : ∀ (ds : List D) (xs : List V), Reps G r P H ds xs → Reps G r P' H' ds xs
  | [], _, h => by unfold Reps at h ⊢; exact h
  | d :: ds, _, h => by
    unfold Reps at h ⊢
    obtain ⟨x, ys, e, h1, h2⟩ := h
    exact ⟨x, ys, e, Rep.keep hS k hP d x h1, Reps.keep hS k hP ds ys h2⟩
end
mutual
theorem Rep.flat : ∀ (d : D) (v : V), d.flat = true → Rep G r P H d v → Rep G r P' H d v
  | .non, _, _, h => by unfold Rep at h ⊢; exact h
  | .bl _, _, _, h => by unfold Rep at h ⊢; exact h
  | .int _, _, _, h => by unfold Rep at h ⊢; exact h
  | .str _, _, _, h => by unfold Rep at h ⊢; exact h
  | .row, _, _, h => by unfold Rep at h ⊢; exact h
  | .tup ds, v, f, h => by
    unfold Rep at h ⊢
    obtain ⟨a, xs, e, h1, h2⟩ := h
    unfold D.flat at f
    exact ⟨a, xs, e, h1, Reps.flat ds xs f h2⟩
  | .lst ds, v, f, h => by unfold D.flat at f; cases f
  | .obj ds, v, f, h => by
    unfold Rep at h ⊢
    obtain ⟨a, dx, l, o, xs, e, hi, h1, h2⟩ := h
    unfold D.flat at f
    exact ⟨a, dx, l, o, xs, e, hi, h1, Reps.flat ds xs f h2⟩
  | .fls ds, v, f, h => by
    unfold Rep at h ⊢
    obtain ⟨a, o, xs, e, h1, h2⟩ := h
    unfold D.flat at f
    exact ⟨a, o, xs, e, h1, Reps.flat ds xs f h2⟩
  | .dic o ks ds, v, f, h => by
    unfold Rep at h ⊢
    obtain ⟨a, u, xs, e, h1, h2, h3, h4⟩ := h
    unfold D.flat at f
    exact ⟨a, u, xs, e, h1, h2, h3, Reps.flat ds xs f h4⟩
theorem Reps.flat : ∀ (ds : List D) (xs : List V), D.flats ds = true → Reps G r P H ds xs → Reps G r P' H ds xs
  | [], _, _, h => by unfold Reps at h ⊢; exact h
  | d :: ds, _, f, h => by
    unfold Reps at h ⊢
    unfold D.flats at f
    rw [Bool.and_eq_true] at f
    obtain ⟨x, ys, e, h1, h2⟩ := h
    exact ⟨x, ys, e, Rep.flat d x f.1 h1, Reps.flat ds ys f.2 h2⟩
end
theorem Rep.imp (hP : ∀ a, P a → P' a) {d : D} {v : V} (h : Rep G r P H d v) : Rep G r P' H d v :=
  Rep.keep (S := fun _ => False) (fun _ z => z.elim) (fun _ _ _ h => h) (fun a p => ⟨fun z => z, hP a p⟩) d v h
theorem Reps.imp (hP : ∀ a, P a → P' a) {ds : List D} {xs : List V} (h : Reps G r P H ds xs) : Reps G r P' H ds xs :=
  Reps.keep (S := fun _ => False) (fun _ z => z.elim) (fun _ _ _ h => h) (fun a p => ⟨fun z => z, hP a p⟩) ds xs h

theorem Reps.length : ∀ {ds : List D} {xs : List V}, Reps G r P H ds xs → xs.length = ds.length
  | [], _, h => by unfold Reps at h; rw [h]; rfl
  | d :: ds, _, h => by
    unfold Reps at h
    obtain ⟨x, ys, e, _, h2⟩ := h
    rw [e, List.length_cons, List.length_cons, Reps.length h2]
theorem Reps.get : ∀ {ds : List D} {xs : List V} {i : Nat} {d : D}, Reps G r P H ds xs → ds[i]? = some d → ∃ x, xs[i]? = some x ∧ Rep G r P H d x
  | [], _, _, _, _, e => by simp at e
  | d :: ds, _, i, d', h, e => by
    unfold Reps at h
    obtain ⟨x, ys, rfl, h1, h2⟩ := h
    cases i with
    | zero => simp at e; subst e; exact ⟨x, rfl, h1⟩
    | succ i =>
      obtain ⟨y, e2, h3⟩ := Reps.get (i := i) h2 (by simpa using e)
      exact ⟨y, by simpa using e2, h3⟩
theorem Reps.get' : ∀ {ds : List D} {xs : List V} {i : Nat} {x : V}, Reps G r P H ds xs → xs[i]? = some x → ∃ d, ds[i]? = some d ∧ Rep G r P H d x
  | [], _, _, _, h, e => by unfold Reps at h; subst h; simp at e
  | d :: ds, _, i, x', h, e => by
    unfold Reps at h
    obtain ⟨x, ys, rfl, h1, h2⟩ := h
    cases i with
    | zero => simp at e; subst e; exact ⟨d, rfl, h1⟩
    | succ i =>
      obtain ⟨y, e2, h3⟩ := Reps.get' (i := i) h2 (by simpa using e)
      exact ⟨y, by simpa using e2, h3⟩
theorem Reps.append : ∀ {ds es : List D} {xs ys : List V}, Reps G r P H ds xs → Reps G r P H es ys → Reps G r P H (ds ++ es) (xs ++ ys)
  | [], _, _, _, h, k => by unfold Reps at h; subst h; exact k
  | d :: ds, es, _, ys, h, k => by
    unfold Reps at h
    obtain ⟨x, zs, rfl, h1, h2⟩ := h
    show Reps G r P H (d :: (ds ++ es)) (x :: (zs ++ ys))
    unfold Reps
    exact ⟨x, _, rfl, h1, Reps.append h2 k⟩
theorem Reps.nil : Reps G r P H [] [] := by unfold Reps; rfl
theorem Reps.cons {d : D} {ds : List D} {x : V} {xs : List V} (h : Rep G r P H d x) (k : Reps G r P H ds xs) : Reps G r P H (d :: ds) (x :: xs) := by
  unfold Reps
  exact ⟨x, xs, rfl, h, k⟩
theorem Reps.one {d : D} {x : V} (h : Rep G r P H d x) : Reps G r P H [d] [x] := .cons h .nil
theorem Reps.take : ∀ {ds : List D} {xs : List V} (n : Nat), Reps G r P H ds xs → Reps G r P H (ds.take n) (xs.take n)
  | _, _, 0, _ => by simp only [List.take_zero]; exact .nil
  | [], _, n + 1, h => by unfold Reps at h; subst h; exact .nil
  | d :: ds, _, n + 1, h => by
    unfold Reps at h
    obtain ⟨x, zs, rfl, h1, h2⟩ := h
    exact .cons h1 (Reps.take n h2)
theorem Reps.drop : ∀ {ds : List D} {xs : List V} (n : Nat), Reps G r P H ds xs → Reps G r P H (ds.drop n) (xs.drop n)
  | _, _, 0, h => h
  | [], _, n + 1, h => by unfold Reps at h; subst h; exact .nil
  | d :: ds, _, n + 1, h => by
    unfold Reps at h
    obtain ⟨x, zs, rfl, h1, h2⟩ := h
    exact Reps.drop n h2
theorem Reps.set : ∀ {ds : List D} {xs : List V} (i : Nat) {d : D} {x : V}, Reps G r P H ds xs → Rep G r P H d x → Reps G r P H (ds.set i d) (xs.set i x)
  | [], _, _, _, _, h, _ => by unfold Reps at h; subst h; exact .nil
  | d :: ds, _, 0, _, _, h, k => by
    unfold Reps at h
    obtain ⟨x, zs, rfl, h1, h2⟩ := h
    exact .cons k h2
  | d :: ds, _, i + 1, _, _, h, k => by
    unfold Reps at h
    obtain ⟨x, zs, rfl, h1, h2⟩ := h
    exact .cons h1 (Reps.set i h2 k)
theorem Reps.reverse : ∀ {ds : List D} {xs : List V}, Reps G r P H ds xs → Reps G r P H ds.reverse xs.reverse
  | [], _, h => by unfold Reps at h; subst h; exact .nil
  | d :: ds, _, h => by
    unfold Reps at h
    obtain ⟨x, zs, rfl, h1, h2⟩ := h
    rw [List.reverse_cons, List.reverse_cons]
    exact (Reps.reverse h2).append (.one h1)
theorem Reps.ints : ∀ {ns : List Int} {xs : List V}, Reps G r P H (ns.map D.int) xs → xs = ns.map V.int
  | [], _, h => by unfold List.map Reps at h; exact h
  | n :: ns, _, h => by
    rw [List.map_cons] at h
    unfold Reps at h
    obtain ⟨x, zs, rfl, h1, h2⟩ := h
    unfold Rep at h1
    rw [h1, Reps.ints h2, List.map_cons]
theorem Reps.of_ints : ∀ {ns : List Int}, Reps G r P H (ns.map D.int) (ns.map V.int)
  | [] => .nil
  | n :: ns => .cons (by unfold Rep; rfl) Reps.of_ints
theorem Reps.strs : ∀ {ns : List Str} {xs : List V}, Reps G r P H (ns.map D.str) xs → xs = ns.map V.str
  | [], _, h => by unfold List.map Reps at h; exact h
  | n :: ns, _, h => by
    rw [List.map_cons] at h
    unfold Reps at h
    obtain ⟨x, zs, rfl, h1, h2⟩ := h
    unfold Rep at h1
    rw [h1, Reps.strs h2, List.map_cons]
theorem Reps.of_strs : ∀ {ns : List Str}, Reps G r P H (ns.map D.str) (ns.map V.str)
  | [] => .nil
  | n :: ns => .cons (by unfold Rep; rfl) Reps.of_strs
theorem Reps.repl {d : D} {x : V} (h : Rep G r P H d x) : ∀ n, Reps G r P H (List.replicate n d) (List.replicate n x)
  | 0 => .nil
  | n + 1 => .cons h (Reps.repl h n)
end

/-! ### kinds of values: made in this very expression; in this call; apart from what is changed here; any -/
inductive Kd where
  | fr | nw | sf | an
  deriving DecidableEq
def Kd.min : Kd → Kd → Kd
  | .an, _ => .an
  | _, .an => .an
  | .sf, _ => .sf
  | _, .sf => .sf
  | .nw, _ => .nw
  | _, .nw => .nw
  | .fr, .fr => .fr
def Kd.P (H0 : Hp) (r : Option Addr) (M : Addr → Prop) (H : Hp) : Kd → Addr → Prop
  | .fr, a => H a = none
  | .nw, a => H0 a = none ∧ ¬ M a ∧ some a ≠ r
  | .sf, a => ¬ M a ∧ some a ≠ r
  | .an, a => some a ≠ r
/-- how a value of that kind may be kept: as a new one, as an old one, not at all -/
def stn (k : Kd) (d : D) : Option Bool :=
  match k with
  | .fr => some true
  | .nw => some true
  | .sf => some d.flat
  | .an => if d.flat then some true else none
def nk (n : Bool) : Kd := if n then .nw else .sf

/-- what is raised -/
inductive Exn where
  | case (w : Str) (n : Int) | sign (p : Int) | row (p : Int) | change | text (n : Int)
def XRep (G : Gp) (H : Hp) : Exn → Value → Option Addr → Prop
  | .case w n, c, dd => c = .ref G.xCase ∧ ∃ a, dd = some a ∧ H a = some (.xd [("number", .int n), ("word", .str w)])
  | .sign p, c, dd => c = .ref G.xSign ∧ ∃ a, dd = some a ∧ H a = some (.xd [("place", .int p)])
  | .row p, c, dd => c = .ref G.xRow ∧ ∃ a, dd = some a ∧ H a = some (.xd [("place", .int p)])
  | .text p, c, dd => c = .ref G.xText ∧ ∃ a, dd = some a ∧ H a = some (.xd [("row", .int p)])
  | .change, c, dd => c = .ref G.xChange ∧ dd = none
/-- what is told of a value whose lists are of one region: told whole; a list of we know not what; a tuple of such; nothing -/
inductive Rg where
  | d (d : D) | lq | tq (gs : List Rg) | u
mutual
def RgOk (G : Gp) (r : Option Addr) (S : Addr → Prop) (H : Hp) : Rg → V → Prop
  | .d d, v => Rep G r S H d v
  | .lq, v => ∃ a, v = .ref a ∧ S a
  | .tq gs, v => ∃ a xs, v = .ref a ∧ H a = some (.tup xs) ∧ RgOks G r S H gs xs
  | .u, _ => True
def RgOks (G : Gp) (r : Option Addr) (S : Addr → Prop) (H : Hp) : List Rg → List V → Prop
  | [], xs => xs = []
  | g :: gs, xs => ∃ x ys, xs = x :: ys ∧ RgOk G r S H g x ∧ RgOks G r S H gs ys
end
inductive Slot where
  | e | v (n : Bool) (d : D) | own (n : Bool) (ds : List D) | ho (o : HO) | is (v : V) | od (ks : List (Option Int)) (ds : List D)
  /-- a caught exception -/
  | xc (a : Addr) (cls : Value) (dd : Option Addr) (x : Exn)
  /-- a value whose lists are all in S, of at most N items, and in no other slot but such of the same sort -/
  | reg (t : Nat) (S : Addr → Prop) (N : Nat) (g : Rg)
def Slot.isOwn : Slot → Bool
  | .own _ _ => true
  | .ho _ => true
  | .od _ _ => true
  | .reg _ _ _ _ => true
  | _ => false
/-- what the slot owns where it holds u -/
def Slot.owns : Slot → Option V → Addr → Prop
  | .own _ _, u, a => u = some (.ref a)
  | .ho _, u, a => u = some (.ref a)
  | .od _ _, u, a => u = some (.ref a)
  | .reg _ S _ _, _, a => S a
  | _, _, _ => False
def Slot.tag : Slot → Option Nat
  | .reg t _ _ _ => some t
  | _ => none
theorem Slot.owns_own {s : Slot} {u : Option V} {a : Addr} (h : s.owns u a) : s.isOwn = true := by
  cases s <;> first | rfl | exact h.elim
/-- two slots that own the same thing are regions of one sort -/
abbrev Tw (s t : Slot) : Prop := s.tag = t.tag ∧ s.tag ≠ none
abbrev Rho := List Slot
inductive Gh where
  | v (n : Bool) (d : D) (v : V)
  | own (a : Addr)
def Mo (γ : List Gh) (σ : L2.St) (ρ : Rho) (a : Addr) : Prop := (∃ (i : Nat) (s : Slot) (u : Option V), ρ[i]? = some s ∧ σ[i]? = some u ∧ s.owns u a) ∨ Gh.own a ∈ γ
def GhOk (G : Gp) (H0 : Hp) (r : Option Addr) (M : Addr → Prop) (H : Hp) : Gh → Prop
  | .v n d v => Rep G r ((nk n).P H0 r M H) H d v
  | .own a => H0 a = none ∧ ∃ o, H a = some o ∧ Mov o
def SlotOk (G : Gp) (H0 : Hp) (r : Option Addr) (M : Addr → Prop) (H : Hp) : Slot → Option V → Prop
  | .e, _ => True
  | .is v, u => u = some v
  | .v n d, u => ∃ v, u = some v ∧ Rep G r ((nk n).P H0 r M H) H d v
  | .own n ds, u => ∃ p xs, u = some (.ref p) ∧ H0 p = none ∧ H p = some (.lst xs) ∧ Reps G r ((nk n).P H0 r M H) H ds xs
  | .ho o, u => ∃ p, u = some (.ref p) ∧ H0 p = none ∧ H p = some o ∧ Mov o
  | .od ks ds, u => ∃ p xs, u = some (.ref p) ∧ H0 p = none ∧ H p = some (DicO p ks xs) ∧ Reps G r (fun _ => False) H ds xs
  | .xc a cls dd x, u => u = some (.ref a) ∧ XRep G H x cls dd
  | .reg _ S N g, u => (∃ v, u = some v ∧ RgOk G r S H g v) ∧ ∀ a, S a → H0 a = none ∧ ∃ xs, H a = some (.lst xs) ∧ xs.length ≤ N
structure EnvOk (G : Gp) (H0 : Hp) (r : Option Addr) (γ : List Gh) (H : Hp) (σ : L2.St) (ρ : Rho) : Prop where
  len : σ.length = ρ.length
  ext : SameR r H0 H
  rt : ∀ a, r = some a → H0 a ≠ none
  row : RowOk G.K r H
  sl : ∀ (i : Nat) (s : Slot) (u : Option V), ρ[i]? = some s → σ[i]? = some u → SlotOk G H0 r (Mo γ σ ρ) H s u
  ap : ∀ (i j : Nat) (s t : Slot) (u w : Option V) (a : Addr), ρ[i]? = some s → ρ[j]? = some t → σ[i]? = some u → σ[j]? = some w → s.owns u a → t.owns w a → i = j ∨ Tw s t
  ag : ∀ (i : Nat) (s : Slot) (u : Option V) (a : Addr), ρ[i]? = some s → σ[i]? = some u → s.owns u a → Gh.own a ∉ γ
  gh : ∀ g ∈ γ, GhOk G H0 r (Mo γ σ ρ) H g

section
variable {G : Gp} {H0 H H' : Hp} {r : Option Addr} {γ : List Gh} {σ : L2.St} {ρ : Rho} {M : Addr → Prop}
/-! ### regions are kept -/
theorem XRep.keep {S : Addr → Prop} (hS : ∀ a, S a → ∃ o, H a = some o ∧ Mov o) (k : ∀ b o, ¬ S b → H b = some o → H' b = some o) {x : Exn} {c : Value} {dd : Option Addr} (h : XRep G H x c dd) : XRep G H' x c dd := by
  have key : ∀ {a : Addr} {fs : List (Str × V)}, H a = some (.xd fs) → H' a = some (.xd fs) := fun {a fs} e => k _ _ (fun hs => by
    obtain ⟨o, e', m⟩ := hS a hs
    rw [e] at e'; cases e'; exact m) e
  cases x with
  | case w n => obtain ⟨h1, a, h2, h3⟩ := h; exact ⟨h1, a, h2, key h3⟩
  | sign p => obtain ⟨h1, a, h2, h3⟩ := h; exact ⟨h1, a, h2, key h3⟩
  | row p => obtain ⟨h1, a, h2, h3⟩ := h; exact ⟨h1, a, h2, key h3⟩
  | text p => obtain ⟨h1, a, h2, h3⟩ := h; exact ⟨h1, a, h2, key h3⟩
  | change => exact h
mutual
theorem RgOk.keep {S T : Addr → Prop} (hT : ∀ a, T a → ∃ o, H a = some o ∧ Mov o) (k : ∀ b o, ¬ T b → H b = some o → H' b = some o) (hP : ∀ a, S a → ¬ T a) : ∀ (g : Rg) (v : V), RgOk G r S H g v → RgOk G r S H' g v
  | .d d, v, h => by
    unfold RgOk at h ⊢
    exact Rep.keep (S := T) hT k (fun a p => ⟨hP a p, p⟩) d v h
  | .lq, v, h => by
    unfold RgOk at h ⊢
    exact h
  | .tq gs, v, h => by
    unfold RgOk at h ⊢
    obtain ⟨a, xs, e, h1, h2⟩ := h
    exact ⟨a, xs, e, k _ _ (tup_not hT h1) h1, RgOks.keep hT k hP gs xs h2⟩
  | .u, v, h => by unfold RgOk; trivial
theorem RgOks.keep {S T : Addr → Prop} (hT : ∀ a, T a → ∃ o, H a = some o ∧ Mov o) (k : ∀ b o, ¬ T b → H b = some o → H' b = some o) (hP : ∀ a, S a → ¬ T a) : ∀ (gs : List Rg) (xs : List V), RgOks G r S H gs xs → RgOks G r S H' gs xs
  | [], _, h => by unfold RgOks at h ⊢; exact h
  | g :: gs, _, h => by
    unfold RgOks at h ⊢
    obtain ⟨x, ys, e, h1, h2⟩ := h
    exact ⟨x, ys, e, RgOk.keep hT k hP g x h1, RgOks.keep hT k hP gs ys h2⟩
end
/-- a region slot is kept -/
theorem SlotOk.regk {M M' T : Addr → Prop} {t N : Nat} {S : Addr → Prop} {g : Rg} {u : Option V} (hT : ∀ a, T a → ∃ o, H a = some o ∧ Mov o) (k : ∀ b o, ¬ T b → H b = some o → H' b = some o) (hP : ∀ a, S a → ¬ T a)
    (h : SlotOk G H0 r M H (.reg t S N g) u) : SlotOk G H0 r M' H' (.reg t S N g) u := by
  obtain ⟨⟨v, h1, h2⟩, h3⟩ := h
  refine ⟨⟨v, h1, RgOk.keep hT k hP g v h2⟩, fun a ha => ?_⟩
  obtain ⟨h4, o, h5, h6⟩ := h3 a ha
  exact ⟨h4, o, k _ _ (hP a ha) h5, h6⟩
theorem SlotOk.xck {M M' T : Addr → Prop} {a : Addr} {c : Value} {dd : Option Addr} {x : Exn} {u : Option V} (hT : ∀ a, T a → ∃ o, H a = some o ∧ Mov o) (k : ∀ b o, ¬ T b → H b = some o → H' b = some o)
    (h : SlotOk G H0 r M H (.xc a c dd x) u) : SlotOk G H0 r M' H' (.xc a c dd x) u := ⟨h.1, h.2.keep hT k⟩
theorem rowok_lst (h : RowOk G.K r H) : ∀ a, some a = r → ∃ o, H a = some o ∧ Mov o := fun a e => by
  obtain ⟨s, ns, i, j, k, h1, _⟩ := h a e.symm
  exact ⟨_, h1, trivial⟩
theorem Rep.mono {P P' : Addr → Prop} (hr : RowOk G.K r H) (e : SameR r H H') (hP : ∀ a, P a → some a ≠ r ∧ P' a) {d : D} {v : V} (h : Rep G r P H d v) : Rep G r P' H' d v :=
  Rep.keep (S := fun a => some a = r) (rowok_lst hr) (fun b o n q => e.keep b o n q) (fun a p => ⟨(hP a p).1, (hP a p).2⟩) d v h
theorem Reps.mono {P P' : Addr → Prop} (hr : RowOk G.K r H) (e : SameR r H H') (hP : ∀ a, P a → some a ≠ r ∧ P' a) {ds : List D} {xs : List V} (h : Reps G r P H ds xs) : Reps G r P' H' ds xs :=
  Reps.keep (S := fun a => some a = r) (rowok_lst hr) (fun b o n q => e.keep b o n q) (fun a p => ⟨(hP a p).1, (hP a p).2⟩) ds xs h

/-- what stands fast while an expression is evaluated: entry H0, its beginning Hs, now H -/
structure Cxt (G : Gp) (H0 : Hp) (r : Option Addr) (M : Addr → Prop) (Hs H : Hp) : Prop where
  ext0 : SameR r H0 Hs
  ext : SameR r Hs H
  rt : ∀ a, r = some a → H0 a ≠ none
  row : RowOk G.K r H
  mtr : ∀ a, M a → H0 a = none ∧ ∃ o, Hs a = some o ∧ Mov o
variable {Hs : Hp}
theorem Cxt.rne (c : Cxt G H0 r M Hs H) {a : Addr} (h : H0 a = none) : some a ≠ r := fun e => c.rt a e.symm h
theorem Cxt.nm (c : Cxt G H0 r M Hs H) {a : Addr} (h : Hs a = none) : ¬ M a := fun m => by
  obtain ⟨_, o, e, _⟩ := c.mtr a m
  rw [h] at e; cases e
theorem Cxt.fr_nw (c : Cxt G H0 r M Hs H) {a : Addr} (h : Hs a = none) : H0 a = none ∧ ¬ M a ∧ some a ≠ r :=
  ⟨c.ext0.there a h, c.nm h, c.rne (c.ext0.there a h)⟩
theorem Cxt.ne_r (c : Cxt G H0 r M Hs H) : ∀ {k : Kd} {a : Addr}, k.P H0 r M Hs a → some a ≠ r
  | .fr, _, h => (c.fr_nw h).2.2
  | .nw, _, h => h.2.2
  | .sf, _, h => h.2
  | .an, _, h => h
theorem Cxt.minl (c : Cxt G H0 r M Hs H) : ∀ {k k' : Kd} {a : Addr}, k.P H0 r M Hs a → (k.min k').P H0 r M Hs a := fun {k k' a} h => by
  cases k <;> cases k' <;> first
    | exact h
    | exact c.fr_nw h
    | exact (c.fr_nw h).2
    | exact (c.fr_nw h).2.2
    | exact h.2
    | exact h.2.2
theorem Cxt.minr (c : Cxt G H0 r M Hs H) : ∀ {k k' : Kd} {a : Addr}, k'.P H0 r M Hs a → (k.min k').P H0 r M Hs a := fun {k k' a} h => by
  cases k <;> cases k' <;> first
    | exact h
    | exact c.fr_nw h
    | exact (c.fr_nw h).2
    | exact (c.fr_nw h).2.2
    | exact h.2
    | exact h.2.2
theorem Cxt.of_fr (c : Cxt G H0 r M Hs H) : ∀ {k : Kd} {a : Addr}, Hs a = none → k.P H0 r M Hs a := fun {k a} h => by
  cases k <;> first
    | exact h
    | exact c.fr_nw h
    | exact (c.fr_nw h).2
    | exact (c.fr_nw h).2.2
theorem Cxt.stn (c : Cxt G H0 r M Hs H) {k : Kd} {d : D} {n : Bool} {v : V} (h : HD.stn k d = some n) (h2 : Rep G r (k.P H0 r M Hs) H' d v) : Rep G r ((nk n).P H0 r M Hs) H' d v := by
  cases k with
  | fr => cases h; exact h2.imp fun a p => c.fr_nw p
  | nw => cases h; exact h2
  | sf =>
    cases h
    cases hf : d.flat with
    | true => exact Rep.flat d v hf h2
    | false => exact h2
  | an =>
    unfold HD.stn at h
    dsimp only at h
    split at h
    · rename_i hf
      cases h
      exact Rep.flat d v hf h2
    · cases h
theorem Cxt.step (c : Cxt G H0 r M Hs H) (e : SameR r H H') (hr : RowOk G.K r H') : Cxt G H0 r M Hs H' := ⟨c.ext0, c.ext.trans e, c.rt, hr, c.mtr⟩
theorem Cxt.pers (c : Cxt G H0 r M Hs H) (e : SameR r H H') {k : Kd} {d : D} {v : V} (h : Rep G r (k.P H0 r M Hs) H d v) : Rep G r (k.P H0 r M Hs) H' d v :=
  Rep.mono c.row e (fun a p => ⟨c.ne_r p, p⟩) h
theorem Cxt.perss (c : Cxt G H0 r M Hs H) (e : SameR r H H') {k : Kd} {ds : List D} {xs : List V} (h : Reps G r (k.P H0 r M Hs) H ds xs) : Reps G r (k.P H0 r M Hs) H' ds xs :=
  Reps.mono c.row e (fun a p => ⟨c.ne_r p, p⟩) h
/-- a new object -/
theorem RowOk.new (hr : RowOk G.K r H) {p : Addr} {o : HO} (h : H p = none) : RowOk G.K r (upd H p o) := fun a e => by
  obtain ⟨s, ns, i, j, k, h1, h2, h3⟩ := hr a e
  refine ⟨s, ns, i, j, k, by rw [upd_ne (ne_of_none h1 h)]; exact h1, ?_, h3⟩
  rcases h2 with ⟨u, h2⟩ | h2
  · exact .inl ⟨u, by rw [upd_ne (ne_of_none h2 h)]; exact h2⟩
  · exact .inr h2
theorem RowOk.write (hr : RowOk G.K r H) {p : Addr} {o o' : HO} (h : H p = some o') (m : Mov o') (hn : some p ≠ r) : RowOk G.K r (upd H p o) := fun a e => by
  obtain ⟨s, ns, i, j, k, h1, h2, h3⟩ := hr a e
  refine ⟨s, ns, i, j, k, by rw [upd_ne (fun z => hn (by rw [← z, e]))]; exact h1, ?_, h3⟩
  rcases h2 with ⟨u, h2⟩ | h2
  · refine .inl ⟨u, ?_⟩
    rw [upd_ne fun z => ?_]
    · exact h2
    · rw [z, h] at h2; cases h2; exact m
  · exact .inr h2
theorem Cxt.new (c : Cxt G H0 r M Hs H) {p : Addr} {o : HO} (h : H p = none) : Cxt G H0 r M Hs (upd H p o) := c.step (.new h) (c.row.new h)
theorem Cxt.newp (c : Cxt G H0 r M Hs H) {p : Addr} (h : H p = none) : Hs p = none := c.ext.there p h

theorem EnvOk.cxt (E : EnvOk G H0 r γ H σ ρ) : Cxt G H0 r (Mo γ σ ρ) H H := ⟨E.ext, .refl, E.rt, E.row, fun a m => by
  rcases m with ⟨i, s, u, h1, h3, h2⟩ | m
  case inr => exact E.gh _ m
  have q := E.sl i s _ h1 h3
  cases s with
  | e => exact h2.elim
  | is w => exact h2.elim
  | v n d => exact h2.elim
  | xc _ _ _ _ => exact h2.elim
  | reg t S N g =>
    obtain ⟨h4, xs, h5, _⟩ := q.2 a h2
    exact ⟨h4, _, h5, trivial⟩
  | own n ds =>
    obtain ⟨p, xs, e, h4, h5, _⟩ := q
    cases e; cases h2
    exact ⟨h4, _, h5, trivial⟩
  | ho o =>
    obtain ⟨p, e, h4, h5, h6⟩ := q
    cases e; cases h2
    exact ⟨h4, _, h5, h6⟩
  | od ks ds =>
    obtain ⟨p, xs, e, h4, h5, _⟩ := q
    cases e; cases h2
    exact ⟨h4, _, h5, trivial⟩⟩
theorem nk_ne (c : Cxt G H0 r M Hs H) {n : Bool} {H1 : Hp} {a : Addr} (h : (nk n).P H0 r M H1 a) : some a ≠ r := by
  cases n with
  | true => exact h.2.2
  | false => exact h.2
theorem nk_heap {n : Bool} {H1 H2 : Hp} {a : Addr} (h : (nk n).P H0 r M H1 a) : (nk n).P H0 r M H2 a := by
  cases n with
  | true => exact h
  | false => exact h
theorem GhOk.keep {g : Gh} (hr : RowOk G.K r H) (hn : ∀ {a : Addr}, H0 a = none → some a ≠ r) (e : SameR r H H') (h : GhOk G H0 r M H g) : GhOk G H0 r M H' g := by
  cases g with
  | v n d v => exact Rep.mono hr e (fun a p => ⟨by cases n with | true => exact p.2.2 | false => exact p.2, nk_heap p⟩) h
  | own a =>
    obtain ⟨h0, o, h1, h2⟩ := h
    exact ⟨h0, o, e.keep _ _ (hn h0) h1, h2⟩
/-- behind an expression -/
theorem EnvOk.step (E : EnvOk G H0 r γ H σ ρ) (e : SameR r H H') (hr : RowOk G.K r H') : EnvOk G H0 r γ H' σ ρ := by
  have c := E.cxt
  refine ⟨E.len, E.ext.trans e, E.rt, hr, fun i s u h1 h2 => ?_, E.ap, E.ag, fun g hg => (E.gh g hg).keep E.row c.rne e⟩
  have q := E.sl i s u h1 h2
  cases s with
  | e => trivial
  | is w => exact q
  | v n d =>
    obtain ⟨v, h3, h4⟩ := q
    exact ⟨v, h3, Rep.mono E.row e (fun a p => ⟨nk_ne c p, nk_heap p⟩) h4⟩
  | own n ds =>
    obtain ⟨p, xs, h3, h4, h5, h6⟩ := q
    exact ⟨p, xs, h3, h4, e.keep _ _ (c.rne h4) h5, Reps.mono E.row e (fun a p => ⟨nk_ne c p, nk_heap p⟩) h6⟩
  | ho o =>
    obtain ⟨p, h3, h4, h5, h6⟩ := q
    exact ⟨p, h3, h4, e.keep _ _ (c.rne h4) h5, h6⟩
  | od ks ds =>
    obtain ⟨p, xs, h3, h4, h5, h6⟩ := q
    exact ⟨p, xs, h3, h4, e.keep _ _ (c.rne h4) h5, Reps.mono E.row e (fun a p => p.elim) h6⟩
  | xc a cl dd x => exact SlotOk.xck (T := fun a => some a = r) (rowok_lst E.row) (fun b o n h => e.keep b o n h) q
  | reg t S N g => exact SlotOk.regk (T := fun a => some a = r) (rowok_lst E.row) (fun b o n h => e.keep b o n h) (fun a ha => c.rne (q.2 a ha).1) q
end
end HD

set_option Elab.async false
set_option linter.all false
set_option maxRecDepth 100000
namespace HD
open PySem PySem.Spec PyProof.Rows L2
section
variable {G : Gp} {H0 H H' Hs : Hp} {r : Option Addr} {γ : List Gh} {σ : L2.St} {ρ : Rho} {M : Addr → Prop} {P P' : Addr → Prop}
theorem rd_lst {a : Addr} {xs ys : List V} (h : H a = some (.lst xs)) (h' : H a = some (.lst ys)) : xs = ys := by
  rw [h] at h'; cases h'; rfl
theorem rd_tup {a : Addr} {xs ys : List V} (h : H a = some (.tup xs)) (h' : H a = some (.tup ys)) : xs = ys := by
  rw [h] at h'; cases h'; rfl
theorem rd_lt {a : Addr} {xs ys : List V} (h : H a = some (.lst xs)) (h' : H a = some (.tup ys)) : False := by
  rw [h] at h'; cases h'
theorem rd_no {a : Addr} {o o' : HO} (h : H a = some o) (h' : H a = some o') (f : o ≠ o') (g : ∀ b, o' ≠ .frz b o) : False := by
  rw [h] at h'; exact f (Option.some.inj h')
theorem rd_nx {a : Addr} {o o' : HO} (h : H a = some o) (h' : H a = some o') (f : o ≠ o') : False := by
  rw [h] at h'; exact f (Option.some.inj h')
mutual
theorem Rep.inj (hr : RowOk G.K r H) (hP : ∀ a, P a → some a ≠ r) (hP' : ∀ a, P' a → some a ≠ r) : ∀ (d d' : D) (v : V), Rep G r P H d v → Rep G r P' H d' v → d = d'
  | .non, d', v, h, h' => by
    unfold Rep at h; subst h
    cases d' <;> unfold Rep at h' <;> first
      | (obtain ⟨_, _, _, _, _, z, _⟩ := h'; cases z; done)
      | (obtain ⟨_, _, _, _, z, _⟩ := h'; cases z; done)
      | (obtain ⟨_, _, _, z, _⟩ := h'; cases z; done)
      | (obtain ⟨_, _, z, _⟩ := h'; cases z; done)
      | (obtain ⟨_, z, _⟩ := h'; cases z; done)
      | rfl
      | (cases h'; done)
  | .bl b, d', v, h, h' => by
    unfold Rep at h; subst h
    cases d' <;> unfold Rep at h' <;> first
      | (obtain ⟨_, _, _, _, _, z, _⟩ := h'; cases z; done)
      | (obtain ⟨_, _, _, _, z, _⟩ := h'; cases z; done)
      | (obtain ⟨_, _, _, z, _⟩ := h'; cases z; done)
      | (obtain ⟨_, _, z, _⟩ := h'; cases z; done)
      | (obtain ⟨_, z, _⟩ := h'; cases z; done)
      | (cases h'; rfl)
      | (cases h'; done)
  | .int b, d', v, h, h' => by
    unfold Rep at h; subst h
    cases d' <;> unfold Rep at h' <;> first
      | (obtain ⟨_, _, _, _, _, z, _⟩ := h'; cases z; done)
      | (obtain ⟨_, _, _, _, z, _⟩ := h'; cases z; done)
      | (obtain ⟨_, _, _, z, _⟩ := h'; cases z; done)
      | (obtain ⟨_, _, z, _⟩ := h'; cases z; done)
      | (obtain ⟨_, z, _⟩ := h'; cases z; done)
      | (cases h'; rfl)
      | (cases h'; done)
  | .str b, d', v, h, h' => by
    unfold Rep at h; subst h
    cases d' <;> unfold Rep at h' <;> first
      | (obtain ⟨_, _, _, _, _, z, _⟩ := h'; cases z; done)
      | (obtain ⟨_, _, _, _, z, _⟩ := h'; cases z; done)
      | (obtain ⟨_, _, _, z, _⟩ := h'; cases z; done)
      | (obtain ⟨_, _, z, _⟩ := h'; cases z; done)
      | (obtain ⟨_, z, _⟩ := h'; cases z; done)
      | (cases h'; rfl)
      | (cases h'; done)
  | .tup ds, d', v, h, h' => by
    unfold Rep at h
    obtain ⟨a, xs, rfl, h1, h2⟩ := h
    cases d' with
    | tup es =>
      unfold Rep at h'
      obtain ⟨b, ys, z, h3, h4⟩ := h'
      cases z
      rw [rd_tup h1 h3] at h2
      rw [Reps.inj hr hP hP' ds es ys h2 h4]
    | lst es =>
      unfold Rep at h'
      obtain ⟨b, ys, z, _, h3, h4⟩ := h'
      cases z
      exact (rd_lt h3 h1).elim
    | obj es =>
      unfold Rep at h'
      obtain ⟨b, dx, l, o', ys, z, h3, _⟩ := h'
      cases z
      exact (rd_no h1 h3 (fun z => nomatch z) (fun _ z => nomatch z)).elim
    | row =>
      unfold Rep at h'
      obtain ⟨b, z, h3⟩ := h'
      cases z
      obtain ⟨_, _, _, _, _, h4, _⟩ := hr _ h3
      exact (rd_no h1 h4 (fun z => nomatch z) (fun _ z => nomatch z)).elim
    | dic o' ks es =>
      unfold Rep at h'
      obtain ⟨b, u, ys, z, h3, _⟩ := h'
      cases z
      exact (rd_nx h1 h3 (fun z => nomatch z)).elim
    | fls es =>
      unfold Rep at h'
      obtain ⟨b, o', ys, z, h3, _⟩ := h'
      cases z
      exact (rd_nx h1 h3 (fun z => nomatch z)).elim
    | non => unfold Rep at h'; cases h'
    | bl => unfold Rep at h'; cases h'
    | int => unfold Rep at h'; cases h'
    | str => unfold Rep at h'; cases h'
  | .lst ds, d', v, h, h' => by
    unfold Rep at h
    obtain ⟨a, xs, rfl, h0, h1, h2⟩ := h
    cases d' with
    | tup es =>
      unfold Rep at h'
      obtain ⟨b, ys, z, h3, h4⟩ := h'
      cases z
      exact (rd_lt h1 h3).elim
    | lst es =>
      unfold Rep at h'
      obtain ⟨b, ys, z, _, h3, h4⟩ := h'
      cases z
      rw [rd_lst h1 h3] at h2
      rw [Reps.inj hr hP hP' ds es ys h2 h4]
    | obj es =>
      unfold Rep at h'
      obtain ⟨b, dx, l, o', ys, z, h3, _⟩ := h'
      cases z
      exact (rd_no h1 h3 (fun z => nomatch z) (fun _ z => nomatch z)).elim
    | row =>
      unfold Rep at h'
      obtain ⟨b, z, h3⟩ := h'
      cases z
      exact (hP _ h0 h3.symm).elim
    | dic o' ks es =>
      unfold Rep at h'
      obtain ⟨b, u, ys, z, h3, _⟩ := h'
      cases z
      exact (rd_nx h1 h3 (fun z => nomatch z)).elim
    | fls es =>
      unfold Rep at h'
      obtain ⟨b, o', ys, z, h3, _⟩ := h'
      cases z
      exact (rd_nx h1 h3 (fun z => nomatch z)).elim
    | non => unfold Rep at h'; cases h'
    | bl => unfold Rep at h'; cases h'
    | int => unfold Rep at h'; cases h'
    | str => unfold Rep at h'; cases h'
  | .obj ds, d', v, h, h' => by
    unfold Rep at h
    obtain ⟨a, dx, l, o, xs, rfl, hi, h1, h2⟩ := h
    cases d' with
    | tup es =>
      unfold Rep at h'
      obtain ⟨b, ys, z, h3, h4⟩ := h'
      cases z
      exact (rd_no h3 hi (fun z => nomatch z) (fun _ z => nomatch z)).elim
    | lst es =>
      unfold Rep at h'
      obtain ⟨b, ys, z, _, h3, h4⟩ := h'
      cases z
      exact (rd_no h3 hi (fun z => nomatch z) (fun _ z => nomatch z)).elim
    | obj es =>
      unfold Rep at h'
      obtain ⟨b, dx', l', o', ys, z, h3, h4, h5⟩ := h'
      cases z
      rw [hi] at h3
      cases h3
      rw [h1] at h4
      cases h4
      rw [Reps.inj hr hP hP' ds es xs h2 h5]
    | row =>
      unfold Rep at h'
      obtain ⟨b, z, h3⟩ := h'
      cases z
      obtain ⟨_, _, _, _, _, h4, _⟩ := hr _ h3
      rw [hi] at h4; cases h4
    | dic o' ks es =>
      unfold Rep at h'
      obtain ⟨b, u, ys, z, h3, _⟩ := h'
      cases z
      exact (rd_nx hi h3 (fun z => nomatch z)).elim
    | fls es =>
      unfold Rep at h'
      obtain ⟨b, o', ys, z, h3, _⟩ := h'
      cases z
      exact (rd_nx hi h3 (fun z => nomatch z)).elim
    | non => unfold Rep at h'; cases h'
    | bl => unfold Rep at h'; cases h'
    | int => unfold Rep at h'; cases h'
    | str => unfold Rep at h'; cases h'
  | .row, d', v, h, h' => by
    unfold Rep at h
    obtain ⟨a, rfl, h1⟩ := h
    cases d' with
    | tup es =>
      unfold Rep at h'
      obtain ⟨b, ys, z, h3, h4⟩ := h'
      cases z
      obtain ⟨_, _, _, _, _, h4, _⟩ := hr _ h1
      exact (rd_no h3 h4 (fun z => nomatch z) (fun _ z => nomatch z)).elim
    | lst es =>
      unfold Rep at h'
      obtain ⟨b, ys, z, h0, h3, h4⟩ := h'
      cases z
      exact (hP' _ h0 h1.symm).elim
    | obj es =>
      unfold Rep at h'
      obtain ⟨b, dx, l, o', ys, z, h3, _⟩ := h'
      cases z
      obtain ⟨_, _, _, _, _, h4, _⟩ := hr _ h1
      rw [h4] at h3; cases h3
    | row => rfl
    | dic o' ks es =>
      unfold Rep at h'
      obtain ⟨b, u, ys, z, h3, _⟩ := h'
      cases z
      obtain ⟨_, _, _, _, _, h4, _⟩ := hr _ h1
      exact (rd_nx h4 h3 (fun z => nomatch z)).elim
    | fls es =>
      unfold Rep at h'
      obtain ⟨b, o', ys, z, h3, _⟩ := h'
      cases z
      obtain ⟨_, _, _, _, _, h4, _⟩ := hr _ h1
      exact (rd_nx h4 h3 (fun z => nomatch z)).elim
    | non => unfold Rep at h'; cases h'
    | bl => unfold Rep at h'; cases h'
    | int => unfold Rep at h'; cases h'
    | str => unfold Rep at h'; cases h'
  | .dic o ks ds, d', v, h, h' => by
    unfold Rep at h
    obtain ⟨a, u, xs, rfl, h1, _, hg, h2⟩ := h
    cases d' with
    | tup es =>
      unfold Rep at h'
      obtain ⟨b, ys, z, h3, h4⟩ := h'
      cases z
      exact (rd_nx h3 h1 (fun z => nomatch z)).elim
    | lst es =>
      unfold Rep at h'
      obtain ⟨b, ys, z, _, h3, h4⟩ := h'
      cases z
      exact (rd_nx h3 h1 (fun z => nomatch z)).elim
    | obj es =>
      unfold Rep at h'
      obtain ⟨b, dx, l, o', ys, z, h3, _⟩ := h'
      cases z
      exact (rd_nx h3 h1 (fun z => nomatch z)).elim
    | row =>
      unfold Rep at h'
      obtain ⟨b, z, h3⟩ := h'
      cases z
      obtain ⟨_, _, _, _, _, h4, _⟩ := hr _ h3
      exact (rd_nx h4 h1 (fun z => nomatch z)).elim
    | dic o' ks' es =>
      unfold Rep at h'
      obtain ⟨b, u', ys, z, h3, _, hg', h4⟩ := h'
      cases z
      rw [h1] at h3
      cases h3
      obtain ⟨q1, q2⟩ := hg.1.inj hg'.1
      subst q1 q2
      rw [Reps.inj hr hP hP' ds es xs h2 h4]
    | fls es =>
      unfold Rep at h'
      obtain ⟨b, o', ys, z, h3, _⟩ := h'
      cases z
      rw [h1] at h3
      cases h3
      exact (hg.2 _ rfl).elim
    | non => unfold Rep at h'; cases h'
    | bl => unfold Rep at h'; cases h'
    | int => unfold Rep at h'; cases h'
    | str => unfold Rep at h'; cases h'
  | .fls ds, d', v, h, h' => by
    unfold Rep at h
    obtain ⟨a, o, xs, rfl, h1, h2⟩ := h
    cases d' with
    | tup es =>
      unfold Rep at h'
      obtain ⟨b, ys, z, h3, h4⟩ := h'
      cases z
      exact (rd_nx h3 h1 (fun z => nomatch z)).elim
    | lst es =>
      unfold Rep at h'
      obtain ⟨b, ys, z, _, h3, h4⟩ := h'
      cases z
      exact (rd_nx h3 h1 (fun z => nomatch z)).elim
    | obj es =>
      unfold Rep at h'
      obtain ⟨b, dx, l, o', ys, z, h3, _⟩ := h'
      cases z
      exact (rd_nx h3 h1 (fun z => nomatch z)).elim
    | row =>
      unfold Rep at h'
      obtain ⟨b, z, h3⟩ := h'
      cases z
      obtain ⟨_, _, _, _, _, h4, _⟩ := hr _ h3
      exact (rd_nx h4 h1 (fun z => nomatch z)).elim
    | dic o' ks' es =>
      unfold Rep at h'
      obtain ⟨b, u', ys, z, h3, _, hg', h4⟩ := h'
      cases z
      rw [h1] at h3
      cases h3
      exact (hg'.2 _ rfl).elim
    | fls es =>
      unfold Rep at h'
      obtain ⟨b, o', ys, z, h3, h4⟩ := h'
      cases z
      rw [h1] at h3
      cases h3
      rw [Reps.inj hr hP hP' ds es xs h2 h4]
    | non => unfold Rep at h'; cases h'
    | bl => unfold Rep at h'; cases h'
    | int => unfold Rep at h'; cases h'
    | str => unfold Rep at h'; cases h'
theorem Reps.inj (hr : RowOk G.K r H) (hP : ∀ a, P a → some a ≠ r) (hP' : ∀ a, P' a → some a ≠ r) : ∀ (ds es : List D) (xs : List V), Reps G r P H ds xs → Reps G r P' H es xs → ds = es
  | [], es, xs, h, h' => by
    unfold Reps at h; subst h
    cases es with
    | nil => rfl
    | cons e es =>
      unfold Reps at h'
      obtain ⟨_, _, z, _⟩ := h'
      cases z
  | d :: ds, es, xs, h, h' => by
    unfold Reps at h
    obtain ⟨x, ys, rfl, h1, h2⟩ := h
    cases es with
    | nil => unfold Reps at h'; cases h'
    | cons e es =>
      unfold Reps at h'
      obtain ⟨y, zs, z, h3, h4⟩ := h'
      cases z
      rw [Rep.inj hr hP hP' d e x h1 h3, Reps.inj hr hP hP' ds es ys h2 h4]
end
mutual
/-- what is smaller than the list at p does not hold p -/
theorem Rep.avoid {p : Addr} {ds0 : List D} {xs0 : List V} (hr : RowOk G.K r H) (hP : ∀ a, P a → some a ≠ r) (hp : H p = some (.lst xs0)) (h0 : Reps G r P H ds0 xs0) :
    ∀ (d : D) (v : V), sizeOf d < sizeOf (D.lst ds0) → Rep G r P H d v → Rep G r (fun a => P a ∧ a ≠ p) H d v
  | .non, _, _, h => by unfold Rep at h ⊢; exact h
  | .bl _, _, _, h => by unfold Rep at h ⊢; exact h
  | .int _, _, _, h => by unfold Rep at h ⊢; exact h
  | .str _, _, _, h => by unfold Rep at h ⊢; exact h
  | .row, _, _, h => by unfold Rep at h ⊢; exact h
  | .tup ds, v, hs, h => by
    unfold Rep at h ⊢
    obtain ⟨a, xs, e, h1, h2⟩ := h
    exact ⟨a, xs, e, h1, Reps.avoid hr hP hp h0 ds xs (by have q : sizeOf (D.tup ds) = 1 + sizeOf ds := D.tup.sizeOf_spec _; omega) h2⟩
  | .lst ds, v, hs, h => by
    unfold Rep at h ⊢
    obtain ⟨a, xs, e, hpa, h1, h2⟩ := h
    refine ⟨a, xs, e, ⟨hpa, fun z => ?_⟩, h1, Reps.avoid hr hP hp h0 ds xs (by have q : sizeOf (D.lst ds) = 1 + sizeOf ds := D.lst.sizeOf_spec _; omega) h2⟩
    subst z
    rw [rd_lst h1 hp] at h2
    have q := Reps.inj hr hP hP ds ds0 xs0 h2 h0
    subst q
    omega
  | .obj ds, v, hs, h => by
    unfold Rep at h ⊢
    obtain ⟨a, dx, l, o, xs, e, hi, h1, h2⟩ := h
    exact ⟨a, dx, l, o, xs, e, hi, h1, Reps.avoid hr hP hp h0 ds xs (by have q : sizeOf (D.obj ds) = 1 + sizeOf ds := D.obj.sizeOf_spec _; omega) h2⟩
  | .fls ds, v, hs, h => by
    unfold Rep at h ⊢
    obtain ⟨a, o, xs, e, h1, h2⟩ := h
    exact ⟨a, o, xs, e, h1, Reps.avoid hr hP hp h0 ds xs (by have q : sizeOf (D.fls ds) = 1 + sizeOf ds := D.fls.sizeOf_spec _; omega) h2⟩
  | .dic o ks ds, v, hs, h => by
    unfold Rep at h ⊢
    obtain ⟨a, u, xs, e, h1, h2, h3, h4⟩ := h
    exact ⟨a, u, xs, e, h1, h2, h3, Reps.avoid hr hP hp h0 ds xs (by have q : sizeOf (D.dic o ks ds) = 1 + sizeOf o + sizeOf ks + sizeOf ds := D.dic.sizeOf_spec _ _ _; omega) h4⟩
theorem Reps.avoid {p : Addr} {ds0 : List D} {xs0 : List V} (hr : RowOk G.K r H) (hP : ∀ a, P a → some a ≠ r) (hp : H p = some (.lst xs0)) (h0 : Reps G r P H ds0 xs0) :
    ∀ (ds : List D) (xs : List V), sizeOf ds < sizeOf (D.lst ds0) → Reps G r P H ds xs → Reps G r (fun a => P a ∧ a ≠ p) H ds xs
  | [], _, _, h => by unfold Reps at h ⊢; exact h
  | d :: ds, _, hs, h => by
    have q : sizeOf (d :: ds) = 1 + sizeOf d + sizeOf ds := rfl
    unfold Reps at h ⊢
    obtain ⟨x, ys, e, h1, h2⟩ := h
    exact ⟨x, ys, e, Rep.avoid hr hP hp h0 d x (by omega) h1, Reps.avoid hr hP hp h0 ds ys (by omega) h2⟩
end
theorem Reps.avoid0 {p : Addr} {ds0 : List D} {xs0 : List V} (hr : RowOk G.K r H) (hP : ∀ a, P a → some a ≠ r) (hp : H p = some (.lst xs0)) (h0 : Reps G r P H ds0 xs0) : Reps G r (fun a => P a ∧ a ≠ p) H ds0 xs0 :=
  Reps.avoid hr hP hp h0 ds0 xs0 (by have q : sizeOf (D.lst ds0) = 1 + sizeOf ds0 := D.lst.sizeOf_spec _; omega) h0

/-! ### slots are set -/
theorem mo_set {i : Nat} {u : Option V} {s : Slot} {a : Addr} (h : Mo γ (σ.set i u) (ρ.set i s) a) (hl : σ.length = ρ.length) : Mo γ σ ρ a ∨ s.owns u a := by
  rcases h with ⟨j, t, w, h1, h3, h2⟩ | h
  case inr => exact .inl (.inr h)
  by_cases hj : i = j
  · subst hj
    by_cases hi : i < ρ.length
    · rw [List.getElem?_set_self hi] at h1
      rw [List.getElem?_set_self (by omega)] at h3
      cases h1; cases h3
      exact .inr h2
    · rw [List.getElem?_eq_none (by rw [List.length_set]; omega)] at h1
      cases h1
  · rw [List.getElem?_set_ne hj] at h1 h3
    exact .inl (.inl ⟨j, t, w, h1, h3, h2⟩)
theorem P_sub {n : Bool} {M M' : Addr → Prop} {H1 H2 : Hp} (hm : ∀ a, M' a → M a) {a : Addr} (h : (nk n).P H0 r M H1 a) : (nk n).P H0 r M' H2 a := by
  cases n with
  | true => exact ⟨h.1, fun z => h.2.1 (hm _ z), h.2.2⟩
  | false => exact ⟨fun z => h.1 (hm _ z), h.2⟩
theorem SlotOk.sub {M M' : Addr → Prop} {s : Slot} {u : Option V} (hm : ∀ a, M' a → M a) (h : SlotOk G H0 r M H s u) : SlotOk G H0 r M' H s u := by
  cases s with
  | e => trivial
  | is w => exact h
  | v n d =>
    obtain ⟨v, h1, h2⟩ := h
    exact ⟨v, h1, h2.imp fun a p => P_sub hm p⟩
  | own n ds =>
    obtain ⟨p, xs, h1, h2, h3, h4⟩ := h
    exact ⟨p, xs, h1, h2, h3, h4.imp fun a p => P_sub hm p⟩
  | ho o => exact h
  | od ks ds => exact h
  | xc a cl dd x => exact h
  | reg t S N g => exact h
theorem GhOk.sub {M M' : Addr → Prop} {g : Gh} (hm : ∀ a, M' a → M a) (h : GhOk G H0 r M H g) : GhOk G H0 r M' H g := by
  cases g with
  | v n d v => exact Rep.imp (fun a p => P_sub hm p) h
  | own a => exact h
/-- slot i takes what owns nothing -/
theorem EnvOk.setN (E : EnvOk G H0 r γ H σ ρ) {i : Nat} {s0 : Slot} {u0 : Option V} (hno : ∀ a, ¬ s0.owns u0 a) (h : SlotOk G H0 r (Mo γ σ ρ) H s0 u0) : EnvOk G H0 r γ H (σ.set i u0) (ρ.set i s0) := by
  have hm : ∀ a, Mo γ (σ.set i u0) (ρ.set i s0) a → Mo γ σ ρ a := fun a z => (mo_set z E.len).resolve_right (hno a)
  have ne : ∀ {l : Nat} {w : Slot} {u : Option V} {a : Addr}, (ρ.set i s0)[l]? = some w → (σ.set i u0)[l]? = some u → w.owns u a → i ≠ l := fun {l w u a} e1 e2 e4 e3 => by
    subst e3
    by_cases hi : i < ρ.length
    · rw [List.getElem?_set_self hi] at e1
      rw [List.getElem?_set_self (by rw [E.len]; exact hi)] at e2
      cases e1; cases e2; exact hno _ e4
    · rw [List.getElem?_eq_none (by rw [List.length_set]; omega)] at e1; cases e1
  refine ⟨by rw [List.length_set, List.length_set, E.len], E.ext, E.rt, E.row, fun j s u h1 h2 => ?_, fun j k s t u w a h1 h2 h3 h4 h5 h6 => ?_, fun j s u a h1 h2 h3 => ?_, fun g hg => (E.gh g hg).sub hm⟩
  · by_cases hj : i = j
    · subst hj
      by_cases hi : i < ρ.length
      · rw [List.getElem?_set_self hi] at h1
        rw [List.getElem?_set_self (by rw [E.len]; exact hi)] at h2
        cases h1; cases h2
        exact h.sub hm
      · rw [List.getElem?_eq_none (by rw [List.length_set]; omega)] at h1
        cases h1
    · rw [List.getElem?_set_ne hj] at h1 h2
      exact (E.sl j s u h1 h2).sub hm
  · have n1 := ne h1 h3 h5
    have n2 := ne h2 h4 h6
    rw [List.getElem?_set_ne n1] at h1 h3
    rw [List.getElem?_set_ne n2] at h2 h4
    exact E.ap j k s t u w a h1 h2 h3 h4 h5 h6
  · have n1 := ne h1 h2 h3
    rw [List.getElem?_set_ne n1] at h1 h2
    exact E.ag j s u a h1 h2 h3
/-- slot i takes a value; the slot is no owner -/
theorem EnvOk.setv (E : EnvOk G H0 r γ H σ ρ) {i : Nat} {n : Bool} {d : D} {v : V} (h : Rep G r ((nk n).P H0 r (Mo γ σ ρ) H) H d v) : EnvOk G H0 r γ H (σ.set i (some v)) (ρ.set i (.v n d)) :=
  E.setN (fun _ z => z.elim) ⟨v, rfl, h⟩
/-- slot i is forgotten -/
theorem EnvOk.sete (E : EnvOk G H0 r γ H σ ρ) {i : Nat} {u : Option V} : EnvOk G H0 r γ H (σ.set i u) (ρ.set i .e) :=
  E.setN (fun _ z => z.elim) trivial
theorem P_add {n : Bool} {p : Addr} {M M' : Addr → Prop} {H1 H2 : Hp} (hm : ∀ a, M' a → M a ∨ a = p) {a : Addr} (h : (nk n).P H0 r M H1 a) (hn : a ≠ p) : (nk n).P H0 r M' H2 a := by
  cases n with
  | true => exact ⟨h.1, fun z => (hm _ z).elim h.2.1 hn, h.2.2⟩
  | false => exact ⟨fun z => (hm _ z).elim h.1 hn, h.2⟩
theorem Rep.tracked {d : D} {v : V} (hr : RowOk G.K r Hs) (e : SameR r Hs H) (hP : ∀ a, P a → some a ≠ r) (h : Rep G r P Hs d v) : Rep G r (fun a => P a ∧ Hs a ≠ none) H d v := by
  have h1 : Rep G r (fun a => P a ∧ Hs a ≠ none) Hs d v := by
    clear e
    revert h
    exact fun h => track d v h
  exact Rep.mono hr e (fun a p => ⟨hP a p.1, p⟩) h1
where
  track : ∀ (d : D) (v : V), Rep G r P Hs d v → Rep G r (fun a => P a ∧ Hs a ≠ none) Hs d v
    | .non, _, h => by unfold Rep at h ⊢; exact h
    | .bl _, _, h => by unfold Rep at h ⊢; exact h
    | .int _, _, h => by unfold Rep at h ⊢; exact h
    | .str _, _, h => by unfold Rep at h ⊢; exact h
    | .row, _, h => by unfold Rep at h ⊢; exact h
    | .tup ds, v, h => by
      unfold Rep at h ⊢
      obtain ⟨a, xs, e, h1, h2⟩ := h
      exact ⟨a, xs, e, h1, tracks ds xs h2⟩
    | .lst ds, v, h => by
      unfold Rep at h ⊢
      obtain ⟨a, xs, e, hpa, h1, h2⟩ := h
      refine ⟨a, xs, e, ⟨hpa, fun z => ?_⟩, h1, tracks ds xs h2⟩
      rw [z] at h1; cases h1
    | .obj ds, v, h => by
      unfold Rep at h ⊢
      obtain ⟨a, dx, l, o, xs, e, hi, h1, h2⟩ := h
      exact ⟨a, dx, l, o, xs, e, hi, h1, tracks ds xs h2⟩
    | .fls ds, v, h => by
      unfold Rep at h ⊢
      obtain ⟨a, o, xs, e, h1, h2⟩ := h
      exact ⟨a, o, xs, e, h1, tracks ds xs h2⟩
    | .dic o ks ds, v, h => by
      unfold Rep at h ⊢
      obtain ⟨a, u, xs, e, h1, h2, h3, h4⟩ := h
      exact ⟨a, u, xs, e, h1, h2, h3, tracks ds xs h4⟩
  tracks : ∀ (ds : List D) (xs : List V), Reps G r P Hs ds xs → Reps G r (fun a => P a ∧ Hs a ≠ none) Hs ds xs
    | [], _, h => by unfold Reps at h ⊢; exact h
    | d :: ds, _, h => by
      unfold Reps at h ⊢
      obtain ⟨x, ys, e, h1, h2⟩ := h
      exact ⟨x, ys, e, track d x h1, tracks ds ys h2⟩
theorem Reps.tracked {ds : List D} {xs : List V} (hr : RowOk G.K r Hs) (e : SameR r Hs H) (hP : ∀ a, P a → some a ≠ r) (h : Reps G r P Hs ds xs) : Reps G r (fun a => P a ∧ Hs a ≠ none) H ds xs :=
  Reps.mono hr e (fun a p => ⟨hP a p.1, p⟩) (Rep.tracked.tracks ds xs h)
end
end HD

set_option Elab.async false
set_option linter.all false
set_option maxRecDepth 100000
namespace HD
open PySem PySem.Spec PyProof.Rows L2
section
variable {G : Gp} {H0 H H' Hs : Hp} {r : Option Addr} {γ : List Gh} {σ : L2.St} {ρ : Rho} {M : Addr → Prop}
theorem own_mo {i : Nat} {s : Slot} {p : Addr} {u : Option V} (h1 : ρ[i]? = some s) (h2 : s.owns u p) (h3 : σ[i]? = some u) : Mo γ σ ρ p := .inl ⟨i, s, u, h1, h3, h2⟩
theorem mo_same {i : Nat} {s t : Slot} {u : Option V} {a : Addr} (h1 : ρ[i]? = some s) (h3 : σ[i]? = some u) (ht : ∀ a, t.owns u a → s.owns u a) (h : Mo γ σ (ρ.set i t) a) : Mo γ σ ρ a := by
  rcases h with ⟨j, w, u', e1, e2, e3⟩ | h
  case inr => exact .inr h
  by_cases hj : i = j
  · subst hj
    rw [List.getElem?_set_self (List.getElem?_eq_some_iff.mp h1).1] at e1
    rw [h3] at e2
    cases e1; cases e2
    exact own_mo h1 (ht a e3) h3
  · rw [List.getElem?_set_ne hj] at e1
    exact .inl ⟨j, w, u', e1, e2, e3⟩
theorem EnvOk.mo_tr (E : EnvOk G H0 r γ H σ ρ) {p : Addr} (m : Mo γ σ ρ p) : H p ≠ none := by
  obtain ⟨_, o, e, _⟩ := E.cxt.mtr p m
  rw [e]; exact fun z => nomatch z
theorem nk_sub {n : Bool} {H1 H2 : Hp} {M : Addr → Prop} {a : Addr} (h : (nk n).P H0 r M H1 a) : (nk n).P H0 r M H2 a := by
  cases n <;> exact h
def wipeR (ρ : Rho) : List Nat → Rho
  | [] => ρ
  | v :: vs => (wipeR ρ vs).set v .e
/-- slot i takes what is new and owns it -/
theorem EnvOk.setS (E : EnvOk G H0 r γ Hs σ ρ) (e : SameR r Hs H) (hr : RowOk G.K r H) {i : Nat} {S : Addr → Prop} {s : Slot} {u0 : Option V} (hS : ∀ a, S a → Hs a = none) (hs : ∀ a, s.owns u0 a → S a)
    (h : (∀ M', (∀ a, M' a → Mo γ σ ρ a ∨ S a) → SlotOk G H0 r M' H s u0)) : EnvOk G H0 r γ H (σ.set i u0) (ρ.set i s) := by
  have c := E.cxt
  have hm : ∀ a, Mo γ (σ.set i u0) (ρ.set i s) a → Mo γ σ ρ a ∨ S a := fun a z => (mo_set z E.len).imp id (hs a)
  have pad : ∀ {n : Bool} {M' : Addr → Prop} {H2 : Hp} {a : Addr}, (∀ a, M' a → Mo γ σ ρ a ∨ S a) → (nk n).P H0 r (Mo γ σ ρ) Hs a → Hs a ≠ none → (nk n).P H0 r M' H2 a := fun {n M' H2 a} hm h hn => by
    have nS : ¬ S a := fun z => hn (hS a z)
    cases n with
    | true => exact ⟨h.1, fun z => (hm _ z).elim h.2.1 nS, h.2.2⟩
    | false => exact ⟨fun z => (hm _ z).elim h.1 nS, h.2⟩
  have keep : ∀ {n : Bool} {d : D} {v : V}, Rep G r ((nk n).P H0 r (Mo γ σ ρ) Hs) Hs d v → Rep G r ((nk n).P H0 r (Mo γ (σ.set i u0) (ρ.set i s)) H) H d v := fun {n d v} q =>
    (Rep.tracked E.row e (fun a p => nk_ne c p) q).imp fun a q => pad hm q.1 q.2
  refine ⟨by rw [List.length_set, List.length_set, E.len], E.ext.trans e, E.rt, hr, fun j t u h1 h2 => ?_, fun j k t t' u w a h1 h2 h3 h4 h5 h6 => ?_, fun j t u a h1 h2 h3 hg => ?_, fun g hg => ?_⟩
  · by_cases hj : i = j
    · subst hj
      by_cases hi : i < ρ.length
      · rw [List.getElem?_set_self hi] at h1
        rw [List.getElem?_set_self (by rw [E.len]; exact hi)] at h2
        cases h1; cases h2
        exact h _ hm
      · rw [List.getElem?_eq_none (by rw [List.length_set]; omega)] at h1
        cases h1
    · rw [List.getElem?_set_ne hj] at h1 h2
      have q := E.sl j t u h1 h2
      cases t with
      | e => trivial
      | is w => exact q
      | v n d =>
        obtain ⟨v, h3, h4⟩ := q
        exact ⟨v, h3, keep h4⟩
      | own n ds =>
        obtain ⟨p', xs, h3, h4, h5, h6⟩ := q
        refine ⟨p', xs, h3, h4, e.keep _ _ (c.rne h4) h5, (Reps.tracked E.row e (fun a p => nk_ne c p) h6).imp fun a q => pad hm q.1 q.2⟩
      | ho o =>
        obtain ⟨p', h3, h4, h5, h6⟩ := q
        exact ⟨p', h3, h4, e.keep _ _ (c.rne h4) h5, h6⟩
      | od ks ds =>
        obtain ⟨p', xs, h3, h4, h5, h6⟩ := q
        exact ⟨p', xs, h3, h4, e.keep _ _ (c.rne h4) h5, Reps.mono E.row e (fun a p => p.elim) h6⟩
      | xc a cl dd x => exact SlotOk.xck (T := fun a => some a = r) (rowok_lst E.row) (fun b o n h => e.keep b o n h) q
      | reg t S N g => exact SlotOk.regk (T := fun a => some a = r) (rowok_lst E.row) (fun b o n h => e.keep b o n h) (fun a ha => c.rne (q.2 a ha).1) q
  · have at_i : ∀ {l : Nat} {w : Slot} {u : Option V} {b : Addr}, (σ.set i u0)[l]? = some u → (ρ.set i s)[l]? = some w → w.owns u b → i = l → S b := fun {l w u b} e1 e2 e4 e3 => by
      subst e3
      by_cases hi : i < ρ.length
      · rw [List.getElem?_set_self (by rw [E.len]; exact hi)] at e1
        rw [List.getElem?_set_self hi] at e2
        cases e1; cases e2; exact hs _ e4
      · rw [List.getElem?_eq_none (by rw [List.length_set]; omega)] at e2; cases e2
    have old : ∀ {l : Nat} {w : Slot} {u : Option V} {b : Addr}, (σ.set i u0)[l]? = some u → (ρ.set i s)[l]? = some w → w.owns u b → i ≠ l → ¬ S b := fun {l w u b} e1 e2 e3 e4 e5 => by
      rw [List.getElem?_set_ne e4] at e1 e2
      exact E.mo_tr (own_mo e2 e3 e1) (hS b e5)
    by_cases hj : i = j
    · by_cases hk : i = k
      · exact .inl (by rw [← hj, ← hk])
      · exact absurd (at_i h3 h1 h5 hj) (old h4 h2 h6 hk)
    · by_cases hk : i = k
      · exact absurd (at_i h4 h2 h6 hk) (old h3 h1 h5 hj)
      · rw [List.getElem?_set_ne hj] at h1 h3
        rw [List.getElem?_set_ne hk] at h2 h4
        exact E.ap j k t t' u w a h1 h2 h3 h4 h5 h6
  · by_cases hj : i = j
    · subst hj
      by_cases hi : i < ρ.length
      · rw [List.getElem?_set_self hi] at h1
        rw [List.getElem?_set_self (by rw [E.len]; exact hi)] at h2
        cases h1; cases h2
        obtain ⟨_, o, q, _⟩ := E.gh _ hg
        rw [hS _ (hs _ h3)] at q; cases q
      · rw [List.getElem?_eq_none (by rw [List.length_set]; omega)] at h1; cases h1
    · rw [List.getElem?_set_ne hj] at h1 h2
      exact E.ag j t u a h1 h2 h3 hg
  · have q := E.gh g hg
    cases g with
    | v n d v => exact keep q
    | own a =>
      obtain ⟨q0, o, q1, q2⟩ := q
      exact ⟨q0, o, e.keep _ _ (c.rne q0) q1, q2⟩
/-- slot i takes a new list and owns it -/
theorem EnvOk.setO (E : EnvOk G H0 r γ Hs σ ρ) (e : SameR r Hs H) (hr : RowOk G.K r H) {i : Nat} {p : Addr} {s : Slot} (hp : Hs p = none) (hs : ∀ a, s.owns (some (.ref p)) a → a = p)
    (h : (∀ M', (∀ a, M' a → Mo γ σ ρ a ∨ a = p) → SlotOk G H0 r M' H s (some (.ref p)))) : EnvOk G H0 r γ H (σ.set i (some (.ref p))) (ρ.set i s) :=
  E.setS (S := fun a => a = p) e hr (fun a z => by rw [z]; exact hp) hs h
theorem ref_of {a p : Addr} (h : some (V.ref p) = some (.ref a)) : a = p := by cases h; rfl
theorem EnvOk.seto (E : EnvOk G H0 r γ Hs σ ρ) (e : SameR r Hs H) (hr : RowOk G.K r H) {i : Nat} {n : Bool} {p : Addr} {xs : List V} {ds : List D} (hp : Hs p = none) (h : H p = some (.lst xs))
    (hc : Reps G r ((nk n).P H0 r (Mo γ σ ρ) Hs) H ds xs) : EnvOk G H0 r γ H (σ.set i (some (.ref p))) (ρ.set i (.own n ds)) := by
  have c := E.cxt
  refine E.setO e hr hp (fun a z => ref_of z) fun M' hm => ⟨p, xs, rfl, E.ext.there p hp, h, ?_⟩
  exact (Reps.avoid0 hr (fun a q => nk_ne c q) h hc).imp fun a q => P_add hm q.1 q.2
theorem EnvOk.seth (E : EnvOk G H0 r γ Hs σ ρ) (e : SameR r Hs H) (hr : RowOk G.K r H) {i : Nat} {p : Addr} {o : HO} (hp : Hs p = none) (h : H p = some o) (m : Mov o) : EnvOk G H0 r γ H (σ.set i (some (.ref p))) (ρ.set i (.ho o)) :=
  E.setO e hr hp (fun a z => ref_of z) fun M' hm => ⟨p, rfl, E.ext.there p hp, h, m⟩
/-- the heap is changed at what slot i owns, the slot tells it anew -/
theorem EnvOk.wrS (E : EnvOk G H0 r γ H σ ρ) {i : Nat} {s t : Slot} {u0 : Option V} {H' : Hp} (T : Addr → Prop) (h1 : ρ[i]? = some s) (h3 : σ[i]? = some u0) (hT : ∀ a, T a → s.owns u0 a) (ht : ∀ a, t.owns u0 a → s.owns u0 a) (htag : s.tag = t.tag)
    (alone : ∀ (j : Nat) (w : Slot), j ≠ i → ρ[j]? = some w → ¬ Tw s w)
    (k : ∀ b o, ¬ T b → H b = some o → H' b = some o) (bk : ∀ b, H' b = none → H b = none) (hr : RowOk G.K r H')
    (h : SlotOk G H0 r (Mo γ σ ρ) H' t u0) : EnvOk G H0 r γ H' σ (ρ.set i t) := by
  have c := E.cxt
  have m : ∀ a, T a → Mo γ σ ρ a := fun a z => own_mo h1 (hT a z) h3
  have hS : ∀ a, T a → ∃ o, H a = some o ∧ Mov o := fun a z => (c.mtr a (m a z)).2
  have il := (List.getElem?_eq_some_iff.mp h1).1
  have hm : ∀ a, Mo γ σ (ρ.set i t) a → Mo γ σ ρ a := fun a z => by
    rcases z with ⟨j, w, u, e1, e2, e3⟩ | z
    case inr => exact .inr z
    by_cases hj : i = j
    · subst hj
      rw [List.getElem?_set_self il] at e1
      rw [h3] at e2
      cases e1; cases e2
      exact own_mo h1 (ht a e3) h3
    · rw [List.getElem?_set_ne hj] at e1
      exact .inl ⟨j, w, u, e1, e2, e3⟩
  have nkp : ∀ {n : Bool} {a : Addr}, (nk n).P H0 r (Mo γ σ ρ) H a → ¬ T a := fun {n a} q z => by
    cases n with
    | true => exact q.2.1 (m _ z)
    | false => exact q.1 (m _ z)
  have keep : ∀ {n : Bool} {d : D} {v : V}, Rep G r ((nk n).P H0 r (Mo γ σ ρ) H) H d v → Rep G r ((nk n).P H0 r (Mo γ σ (ρ.set i t)) H') H' d v := fun {n d v} q =>
    Rep.keep (S := T) hS k (fun a q => ⟨nkp q, P_sub hm q⟩) d v q
  have apart : ∀ {j : Nat} {w : Slot} {u : Option V} {a : Addr}, i ≠ j → ρ[j]? = some w → σ[j]? = some u → w.owns u a → ¬ T a := fun {j w u a} hj e1 e2 e3 z =>
    (E.ap i j s w u0 u a h1 e1 h3 e2 (hT a z) e3).elim hj fun q => alone j w (Ne.symm hj) e1 q
  have h0 : ∀ a, T a → H0 a = none := fun a z => (c.mtr a (m a z)).1
  refine ⟨by rw [List.length_set, E.len], ⟨fun b u n q => k _ _ (fun z => by rw [h0 b z] at q; cases q) (E.ext.keep b u n q), fun b q => E.ext.there b (bk b q)⟩, E.rt, hr, fun j w u e1 e2 => ?_, fun j l w w' u u' a e1 e2 e3 e4 e5 e6 => ?_, fun j w u a e1 e2 e3 => ?_, fun g hg => ?_⟩
  · by_cases hj : i = j
    · subst hj
      rw [List.getElem?_set_self il] at e1
      cases e1
      rw [h3] at e2
      cases e2
      exact h.sub hm
    · rw [List.getElem?_set_ne hj] at e1
      have q := E.sl j w u e1 e2
      cases w with
      | e => trivial
      | is w => exact q
      | v n d =>
        obtain ⟨v, e3, e4⟩ := q
        exact ⟨v, e3, keep e4⟩
      | own n ds =>
        obtain ⟨p', xs, e3, e4, e5, e6⟩ := q
        exact ⟨p', xs, e3, e4, k _ _ (apart hj e1 e2 e3) e5, Reps.keep (S := T) hS k (fun a q => ⟨nkp q, P_sub hm q⟩) _ _ e6⟩
      | ho o' =>
        obtain ⟨p', e3, e4, e5, e6⟩ := q
        exact ⟨p', e3, e4, k _ _ (apart hj e1 e2 e3) e5, e6⟩
      | od ks ds =>
        obtain ⟨p', xs, e3, e4, e5, e6⟩ := q
        exact ⟨p', xs, e3, e4, k _ _ (apart hj e1 e2 e3) e5, Reps.keep (S := T) hS k (fun a q => q.elim) _ _ e6⟩
      | xc a cl dd x => exact SlotOk.xck hS k q
      | reg t' S N g => exact SlotOk.regk hS k (fun a ha => apart hj e1 e2 ha) q
  · have own : ∀ {l : Nat} {w : Slot} {u : Option V}, (ρ.set i t)[l]? = some w → σ[l]? = some u → w.owns u a → ∃ w', ρ[l]? = some w' ∧ w'.owns u a ∧ w'.tag = w.tag := fun {l w u} q1 q2 q3 => by
      by_cases hl : i = l
      · subst hl
        rw [List.getElem?_set_self il] at q1
        rw [h3] at q2
        cases q1; cases q2
        exact ⟨s, h1, ht _ q3, htag⟩
      · rw [List.getElem?_set_ne hl] at q1; exact ⟨w, q1, q3, rfl⟩
    obtain ⟨x1, q1, q2, t1⟩ := own e1 e3 e5
    obtain ⟨x2, q3, q4, t2⟩ := own e2 e4 e6
    rcases E.ap j l x1 x2 u u' a q1 q3 e3 e4 q2 q4 with z | z
    · exact .inl z
    · exact .inr ⟨by rw [← t1, ← t2]; exact z.1, by rw [← t1]; exact z.2⟩
  · by_cases hj : i = j
    · subst hj
      rw [List.getElem?_set_self il] at e1
      rw [h3] at e2
      cases e1; cases e2
      exact E.ag i s u0 a h1 h3 (ht a e3)
    · rw [List.getElem?_set_ne hj] at e1
      exact E.ag j w u a e1 e2 e3
  · have q := E.gh g hg
    cases g with
    | v n d v => exact keep q
    | own a =>
      obtain ⟨q0, o', q1, q2⟩ := q
      exact ⟨q0, o', k _ _ (fun z => E.ag i s u0 _ h1 h3 (hT _ z) hg) q1, q2⟩
/-- what slot i owns is written -/
theorem EnvOk.wrA (E : EnvOk G H0 r γ H σ ρ) {i : Nat} {s t : Slot} {p : Addr} {o : HO} (h1 : ρ[i]? = some s) (h2 : s.owns (some (.ref p)) p) (h3 : σ[i]? = some (some (.ref p))) (ht : ∀ a, t.owns (some (.ref p)) a → s.owns (some (.ref p)) a) (hn : s.tag = none) (hn' : t.tag = none)
    (h : SlotOk G H0 r (Mo γ σ ρ) (upd H p o) t (some (.ref p))) : EnvOk G H0 r γ (upd H p o) σ (ρ.set i t) := by
  have c := E.cxt
  obtain ⟨hp0, o1, hp, mv⟩ := c.mtr p (own_mo h1 h2 h3)
  refine E.wrS (fun a => a = p) h1 h3 (fun a z => by rw [z]; exact h2) ht (by rw [hn, hn']) (fun j w _ _ z => z.2 hn) (fun b u n q => by rw [upd_ne n]; exact q) (fun b q => ?_) (E.row.write hp mv (c.rne hp0)) h
  by_cases hb : b = p
  · rw [hb, upd_same] at q; cases q
  · rw [upd_ne hb] at q; exact q
theorem EnvOk.wrd (E : EnvOk G H0 r γ H σ ρ) {i : Nat} {ks ks' : List (Option Int)} {ds ds' : List D} {p : Addr} {xs' : List V} (h1 : ρ[i]? = some (.od ks ds)) (h3 : σ[i]? = some (some (.ref p)))
    (h : Reps G r (fun _ => False) H ds' xs') : EnvOk G H0 r γ (upd H p (DicO p ks' xs')) σ (ρ.set i (.od ks' ds')) := by
  obtain ⟨hp0, o1, hp, mv⟩ := E.cxt.mtr p (own_mo h1 rfl h3)
  exact E.wrA h1 rfl h3 (fun a z => z) rfl rfl ⟨p, xs', rfl, hp0, upd_same, Reps.keep (S := fun a => a = p) (fun a z => ⟨o1, by rw [z]; exact hp, mv⟩) (fun b u n q => by rw [upd_ne n]; exact q) (fun a q => q.elim) _ _ h⟩
/-- an own dict is closed -/
theorem EnvOk.shut (E : EnvOk G H0 r γ H σ ρ) {i : Nat} {ks : List (Option Int)} {ds : List D} {p : Addr} {xs : List V} {o : Obj} {u : HO} (h1 : ρ[i]? = some (.od ks ds)) (h3 : σ[i]? = some (some (.ref p)))
    (hs : (p == sysModules) = false) (g : Good o ks xs) (hnu : ∀ ys, u ≠ .lst ys) (h : Reps G r (fun _ => False) H ds xs) : EnvOk G H0 r γ (upd H p (.frz o u)) σ (ρ.set i (.v true (.dic o ks ds))) := by
  obtain ⟨hp0, o1, hp, mv⟩ := E.cxt.mtr p (own_mo h1 rfl h3)
  refine E.wrA h1 rfl h3 (fun a z => z.elim) rfl rfl ⟨.ref p, rfl, ?_⟩
  unfold Rep
  exact ⟨p, u, xs, rfl, upd_same, hs, ⟨g, hnu⟩, Reps.keep (S := fun a => a = p) (fun a z => ⟨o1, by rw [z]; exact hp, mv⟩) (fun b u n q => by rw [upd_ne n]; exact q) (fun a q => q.elim) _ _ h⟩
theorem EnvOk.wr (E : EnvOk G H0 r γ H σ ρ) {i : Nat} {n n' : Bool} {ds ds' : List D} {p : Addr} {xs' : List V} (h1 : ρ[i]? = some (.own n ds)) (h3 : σ[i]? = some (some (.ref p)))
    (h : Reps G r ((nk n').P H0 r (Mo γ σ ρ) H) H ds' xs') : EnvOk G H0 r γ (upd H p (.lst xs')) σ (ρ.set i (.own n' ds')) := by
  have c := E.cxt
  have m : Mo γ σ ρ p := own_mo h1 rfl h3
  obtain ⟨hp0, o1, hp, mv⟩ := c.mtr p m
  refine E.wrA h1 rfl h3 (fun a z => z) rfl rfl ⟨p, xs', rfl, hp0, upd_same, ?_⟩
  refine Reps.keep (S := fun a => a = p) (fun a z => ⟨o1, by rw [z]; exact hp, mv⟩) (fun b u n q => by rw [upd_ne n]; exact q) (fun a q => ⟨fun z => ?_, nk_sub q⟩) _ _ h
  subst z
  cases n' with
  | true => exact q.2.1 m
  | false => exact q.1 m
theorem EnvOk.wrh (E : EnvOk G H0 r γ H σ ρ) {i : Nat} {o o' : HO} {p : Addr} (h1 : ρ[i]? = some (.ho o)) (h3 : σ[i]? = some (some (.ref p))) (mv : Mov o') : EnvOk G H0 r γ (upd H p o') σ (ρ.set i (.ho o')) :=
  E.wrA h1 rfl h3 (fun a z => z) rfl rfl ⟨p, rfl, (E.cxt.mtr p (own_mo h1 rfl h3)).1, upd_same, mv⟩
/-- the owner becomes a holder -/
theorem EnvOk.rel (E : EnvOk G H0 r γ H σ ρ) {i : Nat} {n : Bool} {ds : List D} (h1 : ρ[i]? = some (.own n ds)) : EnvOk G H0 r γ H σ (ρ.set i (.v n (.lst ds))) := by
  have c := E.cxt
  have il := (List.getElem?_eq_some_iff.mp h1).1
  have ne : ∀ {l : Nat} {w : Slot} {u : Option V} {a : Addr}, (ρ.set i (.v n (.lst ds)))[l]? = some w → w.owns u a → i ≠ l := fun {l w u a} e1 e2 e3 => by
    subst e3
    rw [List.getElem?_set_self il] at e1; cases e1; exact e2
  have hm : ∀ a, Mo γ σ (ρ.set i (.v n (.lst ds))) a → Mo γ σ ρ a := fun a z => by
    rcases z with ⟨j, w, u, e1, e2, e3⟩ | z
    case inr => exact .inr z
    rw [List.getElem?_set_ne (ne e1 e3)] at e1
    exact .inl ⟨j, w, u, e1, e2, e3⟩
  obtain ⟨u, hu⟩ : ∃ u, σ[i]? = some u := ⟨_, List.getElem?_eq_getElem (by rw [E.len]; exact il)⟩
  obtain ⟨p, xs, e, hp0, hp, hc⟩ := E.sl i _ u h1 hu
  subst e
  have np : ¬ Mo γ σ (ρ.set i (.v n (.lst ds))) p := fun m => by
    rcases m with ⟨j, w, u, e1, e2, e3⟩ | m
    case inr => exact E.ag i _ _ _ h1 hu rfl m
    have hj := ne e1 e3
    rw [List.getElem?_set_ne hj] at e1
    exact (E.ap i j _ _ _ _ _ h1 e1 hu e2 rfl e3).elim hj fun z => z.2 rfl
  refine ⟨by rw [List.length_set, E.len], E.ext, E.rt, E.row, fun j w u e1 e2 => ?_, fun j k w w' u u' a e1 e2 e3 e4 e5 e6 => ?_, fun j w u a e1 e2 e3 => ?_, fun g hg => (E.gh g hg).sub hm⟩
  · by_cases hj : i = j
    · subst hj
      rw [List.getElem?_set_self il] at e1
      rw [hu] at e2
      cases e1; cases e2
      refine ⟨_, rfl, ?_⟩
      unfold Rep
      refine ⟨p, xs, rfl, ?_, hp, hc.imp fun a p => P_sub hm p⟩
      cases n with
      | true => exact ⟨hp0, np, c.rne hp0⟩
      | false => exact ⟨np, c.rne hp0⟩
    · rw [List.getElem?_set_ne hj] at e1
      exact (E.sl j w u e1 e2).sub hm
  · rw [List.getElem?_set_ne (ne e1 e5)] at e1
    rw [List.getElem?_set_ne (ne e2 e6)] at e2
    exact E.ap j k w w' u u' a e1 e2 e3 e4 e5 e6
  · rw [List.getElem?_set_ne (ne e1 e3)] at e1
    exact E.ag j w u a e1 e2 e3
theorem EnvOk.ghost (E : EnvOk G H0 r γ H σ ρ) {n : Bool} {d : D} {v : V} (h : Rep G r ((nk n).P H0 r (Mo γ σ ρ) H) H d v) : EnvOk G H0 r (.v n d v :: γ) H σ ρ := by
  have hm : ∀ a, Mo (.v n d v :: γ) σ ρ a → Mo γ σ ρ a := fun a m => by
    rcases m with m | m
    · exact .inl m
    · rcases List.mem_cons.mp m with z | z
      · cases z
      · exact .inr z
  refine ⟨E.len, E.ext, E.rt, E.row, fun i s u h1 h2 => (E.sl i s u h1 h2).sub hm, E.ap, fun i s u a h1 h2 h3 hg => ?_, fun g hg => ?_⟩
  · rcases List.mem_cons.mp hg with e | e
    · cases e
    · exact E.ag i s u a h1 h2 h3 e
  · rcases List.mem_cons.mp hg with e | e
    · rw [e]; exact Rep.imp (fun a p => P_sub hm p) h
    · exact (E.gh g e).sub hm
theorem EnvOk.ghosts {n : Bool} : ∀ {gs : List D} {vs : List V}, EnvOk G H0 r γ H σ ρ → Reps G r ((nk n).P H0 r (Mo γ σ ρ) H) H gs vs → EnvOk G H0 r ((gs.zip vs).map (fun p => Gh.v n p.1 p.2) ++ γ) H σ ρ
  | [], _, E, _ => E
  | d :: gs, _, E, h => by
    unfold Reps at h
    obtain ⟨x, ys, rfl, h1, h2⟩ := h
    refine (EnvOk.ghosts E h2).ghost (h1.imp fun a p => P_sub (fun a m => ?_) p)
    rcases m with m | m
    · exact .inl m
    · rcases List.mem_append.mp m with z | z
      · obtain ⟨q, _, e⟩ := List.mem_map.mp z
        cases e
      · exact .inr z
theorem EnvOk.unghosts {n : Bool} {gs : List D} {vs : List V} (E : EnvOk G H0 r ((gs.zip vs).map (fun p => Gh.v n p.1 p.2) ++ γ) H σ ρ) : EnvOk G H0 r γ H σ ρ := by
  have hm : ∀ a, Mo γ σ ρ a → Mo ((gs.zip vs).map (fun p => Gh.v n p.1 p.2) ++ γ) σ ρ a := fun a m => m.imp id fun z => List.mem_append.mpr (.inr z)
  exact ⟨E.len, E.ext, E.rt, E.row, fun i s u h1 h2 => (E.sl i s u h1 h2).sub hm, E.ap, fun i s u a h1 h2 h3 hg => E.ag i s u a h1 h2 h3 (List.mem_append.mpr (.inr hg)), fun g hg => (E.gh g (List.mem_append.mpr (.inr hg))).sub hm⟩
theorem reps_ghosts {n : Bool} {M : Addr → Prop} : ∀ {gs : List D} {vs : List V}, gs.length = vs.length → (∀ g, g ∈ (gs.zip vs).map (fun p => Gh.v n p.1 p.2) → GhOk G H0 r M H g) → Reps G r ((nk n).P H0 r M H) H gs vs
  | [], [], _, _ => .nil
  | [], _ :: _, h, _ => by cases h
  | _ :: _, [], h, _ => by cases h
  | d :: gs, v :: vs, h, f => .cons (f _ List.mem_cons_self) (reps_ghosts (by simpa using h) fun g hg => f g (List.mem_cons_of_mem _ hg))
/-- the list that a comprehension fills -/
theorem EnvOk.hold (E : EnvOk G H0 r γ Hs σ ρ) (e : SameR r Hs H) (hr : RowOk G.K r H) {p : Addr} {o : HO} (hp : Hs p = none) (h : H p = some o) (m : Mov o) : EnvOk G H0 r (.own p :: γ) H σ ρ := by
  have c := E.cxt
  have hm : ∀ a, Mo (.own p :: γ) σ ρ a → Mo γ σ ρ a ∨ a = p := fun a m => by
    rcases m with m | m
    · exact .inl (.inl m)
    · rcases List.mem_cons.mp m with z | z
      · cases z; exact .inr rfl
      · exact .inl (.inr z)
  have keep : ∀ {n : Bool} {d : D} {v : V}, Rep G r ((nk n).P H0 r (Mo γ σ ρ) Hs) Hs d v → Rep G r ((nk n).P H0 r (Mo (.own p :: γ) σ ρ) H) H d v := fun {n d v} q =>
    (Rep.tracked E.row e (fun a p => nk_ne c p) q).imp fun a q => P_add hm q.1 fun z => q.2 (by rw [z]; exact hp)
  refine ⟨E.len, E.ext.trans e, E.rt, hr, fun i s u h1 h2 => ?_, E.ap, fun i s u a h1 h2 h3 hg => ?_, fun g hg => ?_⟩
  · have q := E.sl i s u h1 h2
    cases s with
    | e => trivial
    | is w => exact q
    | v n d =>
      obtain ⟨v, h3, h4⟩ := q
      exact ⟨v, h3, keep h4⟩
    | own n ds =>
      obtain ⟨p', xs, h3, h4, h5, h6⟩ := q
      exact ⟨p', xs, h3, h4, e.keep _ _ (c.rne h4) h5, (Reps.tracked E.row e (fun a p => nk_ne c p) h6).imp fun a q => P_add hm q.1 fun z => q.2 (by rw [z]; exact hp)⟩
    | ho o =>
      obtain ⟨p', h3, h4, h5, h6⟩ := q
      exact ⟨p', h3, h4, e.keep _ _ (c.rne h4) h5, h6⟩
    | od ks ds =>
      obtain ⟨p', xs, h3, h4, h5, h6⟩ := q
      exact ⟨p', xs, h3, h4, e.keep _ _ (c.rne h4) h5, Reps.mono E.row e (fun a p => p.elim) h6⟩
    | xc a cl dd x => exact SlotOk.xck (T := fun a => some a = r) (rowok_lst E.row) (fun b o n h => e.keep b o n h) q
    | reg t S N g => exact SlotOk.regk (T := fun a => some a = r) (rowok_lst E.row) (fun b o n h => e.keep b o n h) (fun a ha => c.rne (q.2 a ha).1) q
  · rcases List.mem_cons.mp hg with z | z
    · cases z
      exact E.mo_tr (own_mo h1 h3 h2) hp
    · exact E.ag i s u a h1 h2 h3 z
  · rcases List.mem_cons.mp hg with z | z
    · rw [z]
      exact ⟨E.ext.there p hp, o, h, m⟩
    · have q := E.gh g z
      cases g with
      | v n d v => exact keep q
      | own a =>
        obtain ⟨q0, o, q1, q2⟩ := q
        exact ⟨q0, o, e.keep _ _ (c.rne q0) q1, q2⟩
/-- .. written -/
theorem EnvOk.wrHold (E : EnvOk G H0 r γ H σ ρ) {p : Addr} {o : HO} (hg : Gh.own p ∈ γ) (m : Mov o) : EnvOk G H0 r γ (upd H p o) σ ρ := by
  have c := E.cxt
  obtain ⟨hp0, o1, hp, mv⟩ := c.mtr p (.inr hg)
  have kS : ∀ b u, ¬ (b = p) → H b = some u → (upd H p o) b = some u := fun b u n q => by rw [upd_ne n]; exact q
  have hS : ∀ a, a = p → ∃ o, H a = some o ∧ Mov o := fun a z => ⟨o1, by rw [z]; exact hp, mv⟩
  have nkp : ∀ {n : Bool} {a : Addr}, (nk n).P H0 r (Mo γ σ ρ) H a → ¬ a = p := fun {n a} q z => by
    subst z
    cases n with
    | true => exact q.2.1 (.inr hg)
    | false => exact q.1 (.inr hg)
  have keep : ∀ {n : Bool} {d : D} {v : V}, Rep G r ((nk n).P H0 r (Mo γ σ ρ) H) H d v → Rep G r ((nk n).P H0 r (Mo γ σ ρ) (upd H p o)) (upd H p o) d v := fun {n d v} q =>
    Rep.keep (S := fun a => a = p) hS kS (fun a q => ⟨nkp q, nk_sub q⟩) d v q
  refine ⟨E.len, ⟨fun b u n q => ?_, fun b q => ?_⟩, E.rt, E.row.write hp mv (c.rne hp0), fun i s u h1 h2 => ?_, E.ap, E.ag, fun g hg' => ?_⟩
  · rw [upd_ne (ne_of_none q hp0)]
    exact E.ext.keep b u n q
  · by_cases hb : b = p
    · rw [hb]; exact hp0
    · rw [upd_ne hb] at q
      exact E.ext.there b q
  · have q := E.sl i s u h1 h2
    cases s with
    | e => trivial
    | is w => exact q
    | v n d =>
      obtain ⟨v, h3, h4⟩ := q
      exact ⟨v, h3, keep h4⟩
    | own n ds =>
      obtain ⟨p', xs, h3, h4, h5, h6⟩ := q
      subst h3
      have ne : p' ≠ p := fun z => by
        subst z
        exact E.ag i _ _ _ h1 h2 rfl hg
      exact ⟨p', xs, rfl, h4, by rw [upd_ne ne]; exact h5, Reps.keep (S := fun a => a = p) hS kS (fun a q => ⟨nkp q, nk_sub q⟩) _ _ h6⟩
    | ho o' =>
      obtain ⟨p', h3, h4, h5, h6⟩ := q
      subst h3
      have ne : p' ≠ p := fun z => by
        subst z
        exact E.ag i _ _ _ h1 h2 rfl hg
      exact ⟨p', rfl, h4, by rw [upd_ne ne]; exact h5, h6⟩
    | od ks ds =>
      obtain ⟨p', xs, h3, h4, h5, h6⟩ := q
      subst h3
      have ne : p' ≠ p := fun z => by
        subst z
        exact E.ag i _ _ _ h1 h2 rfl hg
      exact ⟨p', xs, rfl, h4, by rw [upd_ne ne]; exact h5, Reps.keep (S := fun a => a = p) hS kS (fun a q => q.elim) _ _ h6⟩
    | xc a cl dd x => exact SlotOk.xck hS kS q
    | reg t S N g => exact SlotOk.regk hS kS (fun a ha z => E.ag i _ _ _ h1 h2 (show S p by rw [← z]; exact ha) hg) q
  · have q := E.gh g hg'
    cases g with
    | v n d v => exact keep q
    | own a =>
      obtain ⟨q0, o', q1, q2⟩ := q
      by_cases z : a = p
      · exact ⟨q0, o, by rw [z]; exact upd_same, m⟩
      · exact ⟨q0, o', by rw [upd_ne z]; exact q1, q2⟩
/-- a comprehension's own names are wiped -/
theorem EnvOk.wipe (E : EnvOk G H0 r γ H σ ρ) : ∀ vs : List Nat, EnvOk G H0 r γ H (L2.wipe σ vs) (wipeR ρ vs)
  | [] => E
  | v :: vs => (EnvOk.wipe E vs).sete
end
end HD

set_option Elab.async false
set_option linter.all false
set_option maxRecDepth 100000
namespace HD
open PySem PySem.Spec PyProof.Rows L2

def XOk (G : Gp) (E : XK) (XX : Exn → Prop) (r : Option Addr) (H0 : Hp) : Prop :=
  ∀ x c dd H', XX x → SameR r H0 H' → RowOk G.K r H' → XRep G H' x c dd → E c dd H'

/-! ### readings in which no heap stands -/
abbrev KQ := Kd → D → Prop
abbrev DTE := (Exn → Prop) → Rho → KQ → Prop
abbrev DTT := (Exn → Prop) → Rho → (Bool → Prop) → Prop
abbrev DTA := (Exn → Prop) → Rho → (Kd → List D → Prop) → Prop
def Post (G : Gp) (H0 : Hp) (r : Option Addr) (M : Addr → Prop) (Hs H : Hp) (Q : KQ) (Qv : VK) : Prop :=
  ∀ v k d H', Q k d → SameR r H H' → RowOk G.K r H' → Rep G r (k.P H0 r M Hs) H' d v → Qv v H'
def cE (G : Gp) (E : XK) (t : DTE) : TE := fun σ H Qv => ∃ H0 r γ ρ XX Q, EnvOk G H0 r γ H σ ρ ∧ t XX ρ Q ∧ XOk G E XX r H0 ∧ Post G H0 r (Mo γ σ ρ) H H Q Qv
def cT (G : Gp) (E : XK) (t : DTT) : TT := fun σ H Qv => ∃ H0 r γ ρ XX Q, EnvOk G H0 r γ H σ ρ ∧ t XX ρ Q ∧ XOk G E XX r H0 ∧ ∀ b H', Q b → SameR r H H' → RowOk G.K r H' → Qv b H'
def cA (G : Gp) (E : XK) (t : DTA) : TA := fun σ H Qv => ∃ H0 r γ ρ XX Q, EnvOk G H0 r γ H σ ρ ∧ t XX ρ Q ∧ XOk G E XX r H0 ∧
  ∀ vs k ds H', Q k ds → SameR r H H' → RowOk G.K r H' → Reps G r (k.P H0 r (Mo γ σ ρ) H) H' ds vs → Qv vs H'

structure Now (G : Gp) (H0 : Hp) (r : Option Addr) (γ : List Gh) (Hs H : Hp) (σ : L2.St) (ρ : Rho) : Prop where
  env : EnvOk G H0 r γ Hs σ ρ
  ex : SameR r Hs H
  row : RowOk G.K r H

section
variable {G : Gp} {E : XK} {H0 H H' Hs : Hp} {r : Option Addr} {γ : List Gh} {σ : L2.St} {ρ : Rho} {M : Addr → Prop} {X : Cx} {XX : Exn → Prop}
theorem Now.start (h : EnvOk G H0 r γ H σ ρ) : Now G H0 r γ H H σ ρ := ⟨h, .refl, h.row⟩
theorem Now.cxt (N : Now G H0 r γ Hs H σ ρ) : Cxt G H0 r (Mo γ σ ρ) Hs H := N.env.cxt.step N.ex N.row
theorem Now.now (N : Now G H0 r γ Hs H σ ρ) : EnvOk G H0 r γ H σ ρ := N.env.step N.ex N.row
theorem Now.step (N : Now G H0 r γ Hs H σ ρ) (e : SameR r H H') (hr : RowOk G.K r H') : Now G H0 r γ Hs H' σ ρ := ⟨N.env, N.ex.trans e, hr⟩
theorem P_back (e : SameR r Hs H) : ∀ {k : Kd} {a : Addr}, k.P H0 r M H a → k.P H0 r M Hs a := fun {k a} h => by
  cases k with
  | fr => exact e.there a h
  | nw => exact h
  | sf => exact h
  | an => exact h
theorem cE_at {t : DTE} {Q : KQ} {Qv : VK} (N : Now G H0 r γ Hs H σ ρ) (ht : t XX ρ Q) (hx : XOk G E XX r H0)
    (post : ∀ v k d H', Q k d → SameR r H H' → Now G H0 r γ Hs H' σ ρ → Rep G r (k.P H0 r (Mo γ σ ρ) Hs) H' d v → Qv v H') : cE G E t σ H Qv :=
  ⟨H0, r, γ, ρ, XX, Q, N.now, ht, hx, fun v k d H' q e hr h => post v k d H' q e (N.step e hr) (h.imp fun _ p => P_back N.ex p)⟩
theorem cT_at {t : DTT} {Q : Bool → Prop} {Qv : Bool → Hp → Prop} (N : Now G H0 r γ Hs H σ ρ) (ht : t XX ρ Q) (hx : XOk G E XX r H0)
    (post : ∀ b H', Q b → SameR r H H' → Now G H0 r γ Hs H' σ ρ → Qv b H') : cT G E t σ H Qv :=
  ⟨H0, r, γ, ρ, XX, Q, N.now, ht, hx, fun b H' q e hr => post b H' q e (N.step e hr)⟩
theorem cA_at {t : DTA} {Q : Kd → List D → Prop} {Qv : List V → Hp → Prop} (N : Now G H0 r γ Hs H σ ρ) (ht : t XX ρ Q) (hx : XOk G E XX r H0)
    (post : ∀ vs k ds H', Q k ds → SameR r H H' → Now G H0 r γ Hs H' σ ρ → Reps G r (k.P H0 r (Mo γ σ ρ) Hs) H' ds vs → Qv vs H') : cA G E t σ H Qv :=
  ⟨H0, r, γ, ρ, XX, Q, N.now, ht, hx, fun v k d H' q e hr h => post v k d H' q e (N.step e hr) (h.imp fun _ p => P_back N.ex p)⟩
theorem pe_weak {e : Expr} {t t' : TE} (h : PE X e t) (w : ∀ σ H Q, t' σ H Q → t σ H Q) : PE X e t' := ⟨fun pins s σ H Q I q => h.run pins s σ H Q I (w _ _ _ q)⟩
theorem pt_weak {e : Expr} {t t' : TT} (h : PT X e t) (w : ∀ σ H Q, t' σ H Q → t σ H Q) : PT X e t' := ⟨fun pins s σ H Q I q => h.run pins s σ H Q I (w _ _ _ q)⟩
theorem pw_weak {e : Expr} {t t' : TT} (h : PW X e t) (w : ∀ σ H Q, t' σ H Q → t σ H Q) : PW X e t' := ⟨fun wh pins s σ H Q I q => h.run wh pins s σ H Q I (w _ _ _ q)⟩
theorem pa_weak {es : List Expr} {t t' : TA} (h : PA X es t) (w : ∀ σ H Q, t' σ H Q → t σ H Q) : PA X es t' := ⟨fun pos pins s σ H Q I q => h.run pos pins s σ H Q I (w _ _ _ q)⟩
theorem ps_weak {st : Stmt} {t t' : TS} (h : PS X st t) (w : ∀ D σ H, t' D σ H → t D σ H) : PS X st t' := ⟨fun pins s σ H D I q => h.run pins s σ H D I (w _ _ _ q)⟩
theorem pss_weak {st : List Stmt} {t t' : TS} (h : PSs X st t) (w : ∀ D σ H, t' D σ H → t D σ H) : PSs X st t' := ⟨fun pins s σ H D I q => h.run pins s σ H D I (w _ _ _ q)⟩
theorem Post.scal (c : Cxt G H0 r M Hs H) {Q : KQ} {Qv : VK} (p : Post G H0 r M Hs H Q Qv) {v : V} {d : D} (q : Q .fr d) (h : Rep G r (Kd.P H0 r M Hs .fr) H d v) : Qv v H := p v .fr d H q .refl c.row h

/-! ### names, constants -/
def rdS : Slot → KQ → Prop
  | .v n d, Q => Q (nk n) d
  | .own n ds, Q => Q .an (.lst ds)
  | .reg _ _ _ (.d d), Q => Q .an d
  | _, _ => False
def dVar (i : Nat) : DTE := fun _ ρ Q => ∃ s, ρ[i]? = some s ∧ rdS s Q
def dC (d : D) : DTE := fun _ _ Q => Q .fr d
theorem cE_var {i : Nat} {Qv : VK} (h : cE G E (dVar i) σ H Qv) : tVar i σ H Qv := by
  obtain ⟨H0, r, γ, ρ, XX, Q, env, ⟨s, hs, q⟩, hx, post⟩ := h
  have il := (List.getElem?_eq_some_iff.mp hs).1
  obtain ⟨u, hu⟩ : ∃ u, σ[i]? = some u := ⟨_, List.getElem?_eq_getElem (by rw [env.len]; exact il)⟩
  have so := env.sl i s u hs hu
  have c := env.cxt
  cases s with
  | v n d =>
    obtain ⟨v, rfl, h2⟩ := so
    exact ⟨v, hu, post v _ d H q .refl env.row h2⟩
  | own n ds =>
    obtain ⟨p, xs, rfl, h2, h3, h4⟩ := so
    refine ⟨.ref p, hu, post _ _ _ H q .refl env.row ?_⟩
    unfold Rep
    exact ⟨p, xs, rfl, c.rne h2, h3, h4.imp fun a q => nk_ne c q⟩
  | e => exact q.elim
  | is w => exact q.elim
  | ho o => exact q.elim
  | od ks ds => exact q.elim
  | xc a cl dd x => exact q.elim
  | reg t S N g =>
    cases g with
    | d d =>
      obtain ⟨⟨v, rfl, h2⟩, h3⟩ := so
      unfold RgOk at h2
      exact ⟨v, hu, post v _ d H q .refl env.row (h2.imp fun a p => c.rne (h3 a p).1)⟩
    | lq => exact q.elim
    | tq gs => exact q.elim
    | u => exact q.elim
theorem pd_var (i : Nat) {x : Str} {pos : Pos} (hN : X.N[i]? = some x := by rfl) (hv : Vis X.env.scope x := by first | exact Or.inl rfl | exact Or.inr (Or.inl rfl) | exact Or.inr (Or.inr rfl)) (hd : (x == ("__debug__" : Str)) = false := by decide)
    (hcd : (x == ("__classdict__" : Str)) = false := by decide) : PE X (.Name x pos) (cE G E (dVar i)) := pe_weak (pv i hN hv hd hcd) fun _ _ _ h => cE_var h
theorem cE_c {v : V} {d : D} (hr : ∀ r P H, Rep G r P H d v) {Qv : VK} (h : cE G E (dC d) σ H Qv) : tC v σ H Qv := by
  obtain ⟨H0, r, γ, ρ, XX, Q, env, q, hx, post⟩ := h
  exact post v .fr d H q .refl env.row (hr _ _ _)
theorem pd_c {e : Expr} {v : V} {d : D} (h : PE X e (tC v)) (hr : ∀ r P H, Rep G r P H d v := by intros; unfold Rep; rfl) : PE X e (cE G E (dC d)) := pe_weak h fun _ _ _ h => cE_c hr h
theorem pd_int {i j pos} : PE X (.Constant (.int i) j pos) (cE G E (dC (.int i))) := pd_c pe_int
theorem pd_bl {b j pos} : PE X (.Constant (.bool b) j pos) (cE G E (dC (.bl b))) := pd_c pe_bl
theorem pd_non {j pos} : PE X (.Constant .none j pos) (cE G E (dC .non)) := pd_c pe_non
theorem pd_str {x j pos} : PE X (.Constant (.str x) j pos) (cE G E (dC (.str x))) := pd_c pe_str
theorem pd_gint {x : Str} {i : Int} {t : Tok} {pos : Pos} (hg : Gl X x) (hm : X.mg x = some (.int i t)) (hd : (x == ("__debug__" : Str)) = false := by decide) : PE X (.Name x pos) (cE G E (dC (.int i))) := pd_c (pe_glob (v := .int i) hg hm ⟨t, rfl⟩ hd)
theorem pd_gstr {x : Str} {i : Str} {t : Tok} {pos : Pos} (hg : Gl X x) (hm : X.mg x = some (.str i t)) (hd : (x == ("__debug__" : Str)) = false := by decide) : PE X (.Name x pos) (cE G E (dC (.str i))) := pd_c (pe_glob (v := .str i) hg hm ⟨t, rfl⟩ hd)

/-! ### two-place operations -/
abbrev DR2 := Kd → D → Kd → D → KQ → Prop
def cR2 (G : Gp) (rd : DR2) : R2 := fun x y H Qv => ∃ H0 r M Hs k1 d1 k2 d2 Q, Cxt G H0 r M Hs H ∧ rd k1 d1 k2 d2 Q ∧ Rep G r (k1.P H0 r M Hs) H d1 x ∧ Rep G r (k2.P H0 r M Hs) H d2 y ∧ Post G H0 r M Hs H Q Qv
def dOp (rd : DR2) (da db : DTE) : DTE := fun XX ρ Q => da XX ρ fun k1 d1 => db XX ρ fun k2 d2 => rd k1 d1 k2 d2 Q
theorem cE_op {rd : DR2} {da db : DTE} {Qv : VK} (h : cE G E (dOp rd da db) σ H Qv) : tOp (cR2 G rd) (cE G E da) (cE G E db) σ H Qv := by
  obtain ⟨H0, r, γ, ρ, XX, Q, env, q, hx, post⟩ := h
  refine cE_at (Now.start env) q hx fun x k1 d1 H1 q1 e1 N1 r1 => ?_
  refine cE_at N1 q1 hx fun y k2 d2 H2 q2 e2 N2 r2 => ?_
  exact ⟨H0, r, Mo γ σ ρ, H, k1, d1, k2, d2, Q, N2.cxt, q2, N1.cxt.pers e2 r1, r2, fun v k d H' q e hr h => post v k d H' q (N2.ex.trans e) hr h⟩
variable {a b c : Expr} {da db dc : DTE} {pos : Pos}
theorem pd_op {op : Operator} {rd : DR2} (ho : OpR X (binaryOp op) (cR2 G rd)) (ha : PE X a (cE G E da)) (hb : PE X b (cE G E db)) : PE X (.BinOp a op b pos) (cE G E (dOp rd da db)) :=
  pe_weak (pe_op ho ha hb) fun _ _ _ h => cE_op h
theorem pd_cmp {op : CmpOp} {rd : DR2} (ho : OpR X (compareOp op) (cR2 G rd)) (ha : PE X a (cE G E da)) (hb : PE X b (cE G E db)) (hm : behindInMarks op b = false := by first | exact nobehind _ (by decide) (by decide) | rfl) : PE X (.Compare a [op] [b] pos) (cE G E (dOp rd da db)) :=
  pe_weak (pe_cmpR ho ha hb hm) fun _ _ _ h => cE_op h
/-- a value that is True or False, as a test -/
def dB (t : DTE) : DTT := fun XX ρ Q => t XX ρ fun _ d => ∃ b, d = .bl b ∧ Q b
theorem cT_B {t : DTE} {Qv : Bool → Hp → Prop} (h : cT G E (dB t) σ H Qv) : tB (cE G E t) σ H Qv := by
  obtain ⟨H0, r, γ, ρ, XX, Q, env, q, hx, post⟩ := h
  refine cE_at (Now.start env) q hx fun x k1 d1 H1 q1 e1 N1 r1 => ?_
  obtain ⟨b, rfl, q2⟩ := q1
  unfold Rep at r1
  exact ⟨b, r1, post b H1 q2 e1 N1.row⟩
theorem pt_of {e : Expr} {t : DTE} (h : PE X e (cE G E t)) (he : ∀ whole, isTrue e X.env whole = (do let v ← whole; standAt e.pos; holding [v] (truthy v)) := by intro _; rfl) : PT X e (cT G E (dB t)) :=
  pt_weak (pt_val h he) fun _ _ _ h => cT_B h
theorem ptd_cmp {op : CmpOp} {rd : DR2} (ho : OpR X (compareOp op) (cR2 G rd)) (ha : PE X a (cE G E da)) (hb : PE X b (cE G E db)) (hm : behindInMarks op b = false := by first | exact nobehind _ (by decide) (by decide) | rfl) : PT X (.Compare a [op] [b] pos) (cT G E (dB (dOp rd da db))) :=
  pt_weak (pt_cmpR ho ha hb hm) fun _ _ _ h => by
    obtain ⟨H0, r, γ, ρ, XX, Q, env, q, hx, post⟩ := h
    refine cE_op ⟨H0, r, γ, ρ, XX, _, env, q, hx, fun v k d H' q e hr h => ?_⟩
    obtain ⟨b, rfl, q2⟩ := q
    unfold Rep at h
    exact ⟨b, h, post b H' q2 e hr⟩
/-! ### and, or, not, a if t else b -/
variable {ta tb : DTT} {rest : List Expr}
def dAnd (t u : DTT) : DTT := fun XX ρ Q => t XX ρ fun b => if b = true then u XX ρ Q else Q false
def dOr (t u : DTT) : DTT := fun XX ρ Q => t XX ρ fun b => if b = true then Q true else u XX ρ Q
def dNot (t : DTT) : DTT := fun XX ρ Q => t XX ρ fun b => Q (!b)
theorem cT_and {Qv : Bool → Hp → Prop} (h : cT G E (dAnd ta tb) σ H Qv) : tAnd (cT G E ta) (cT G E tb) σ H Qv := by
  obtain ⟨H0, r, γ, ρ, XX, Q, env, q, hx, post⟩ := h
  refine cT_at (Now.start env) q hx fun b H1 q1 e1 N1 => ?_
  cases b with
  | true =>
    rw [if_pos rfl]
    exact cT_at N1 (show tb XX ρ Q from q1) hx fun b H2 q2 e2 N2 => post b H2 q2 N2.ex N2.row
  | false => exact post false H1 q1 N1.ex N1.row
theorem cT_or {Qv : Bool → Hp → Prop} (h : cT G E (dOr ta tb) σ H Qv) : tOr (cT G E ta) (cT G E tb) σ H Qv := by
  obtain ⟨H0, r, γ, ρ, XX, Q, env, q, hx, post⟩ := h
  refine cT_at (Now.start env) q hx fun b H1 q1 e1 N1 => ?_
  cases b with
  | false =>
    rw [if_neg Bool.false_ne_true]
    exact cT_at N1 (show tb XX ρ Q from q1) hx fun b H2 q2 e2 N2 => post b H2 q2 N2.ex N2.row
  | true => exact post true H1 q1 N1.ex N1.row
theorem pwd_and1 (ha : PT X a (cT G E ta)) : PW X (.BoolOp .And [a] pos) (cT G E ta) := pw_and1 ha
theorem pwd_or1 (ha : PT X a (cT G E ta)) : PW X (.BoolOp .Or [a] pos) (cT G E ta) := pw_or1 ha
theorem pwd_and (ha : PT X a (cT G E ta)) (hb : PW X (.BoolOp .And (b :: rest) pos) (cT G E tb)) : PW X (.BoolOp .And (a :: b :: rest) pos) (cT G E (dAnd ta tb)) := pw_weak (pw_and ha hb) fun _ _ _ h => cT_and h
theorem pwd_or (ha : PT X a (cT G E ta)) (hb : PW X (.BoolOp .Or (b :: rest) pos) (cT G E tb)) : PW X (.BoolOp .Or (a :: b :: rest) pos) (cT G E (dOr ta tb)) := pw_weak (pw_or ha hb) fun _ _ _ h => cT_or h
theorem ptd_not (ha : PT X a (cT G E ta)) : PT X (.UnaryOp .Not a pos) (cT G E (dNot ta)) := pt_weak (pt_not ha) fun _ _ _ h => by
  obtain ⟨H0, r, γ, ρ, XX, Q, env, q, hx, post⟩ := h
  exact cT_at (Now.start env) q hx fun b H1 q1 e1 N1 => post (!b) H1 q1 e1 N1.row
/-- .. as values -/
def dAndV (da db : DTE) : DTE := fun XX ρ Q => da XX ρ fun _ d => ∃ b, d = .bl b ∧ if b = true then db XX ρ Q else Q .fr (.bl false)
def dOrV (da db : DTE) : DTE := fun XX ρ Q => da XX ρ fun _ d => ∃ b, d = .bl b ∧ if b = true then Q .fr (.bl true) else db XX ρ Q
def dNotV (da : DTE) : DTE := fun XX ρ Q => da XX ρ fun _ d => ∃ b, d = .bl b ∧ Q .fr (.bl (!b))
theorem rep_bl {P : Addr → Prop} {b : Bool} : Rep G r P H (.bl b) (.bl b) := by unfold Rep; rfl
theorem rep_int {P : Addr → Prop} {b : Int} : Rep G r P H (.int b) (.int b) := by unfold Rep; rfl
theorem rep_str {P : Addr → Prop} {b : Str} : Rep G r P H (.str b) (.str b) := by unfold Rep; rfl
theorem rep_non {P : Addr → Prop} : Rep G r P H .non .non := by unfold Rep; rfl
theorem pd_one {op} (h : PE X a (cE G E da)) : PE X (.BoolOp op [a] pos) (cE G E da) := pe_one h
theorem pd_and (ha : PE X a (cE G E da)) (hb : PE X (.BoolOp .And (b :: rest) pos) (cE G E db)) : PE X (.BoolOp .And (a :: b :: rest) pos) (cE G E (dAndV da db)) := pe_weak (pe_and ha hb) fun _ _ _ h => by
  obtain ⟨H0, r, γ, ρ, XX, Q, env, q, hx, post⟩ := h
  refine cE_at (Now.start env) q hx fun x k1 d1 H1 q1 e1 N1 r1 => ?_
  obtain ⟨b, rfl, q2⟩ := q1
  unfold Rep at r1
  refine ⟨b, r1, ?_⟩
  cases b with
  | true =>
    rw [if_pos rfl] at q2 ⊢
    exact cE_at N1 q2 hx fun v k d H2 q e N2 h => post v k d H2 q N2.ex N2.row h
  | false => exact post _ _ _ _ q2 e1 N1.row rep_bl
theorem pd_or (ha : PE X a (cE G E da)) (hb : PE X (.BoolOp .Or (b :: rest) pos) (cE G E db)) : PE X (.BoolOp .Or (a :: b :: rest) pos) (cE G E (dOrV da db)) := pe_weak (pe_or ha hb) fun _ _ _ h => by
  obtain ⟨H0, r, γ, ρ, XX, Q, env, q, hx, post⟩ := h
  refine cE_at (Now.start env) q hx fun x k1 d1 H1 q1 e1 N1 r1 => ?_
  obtain ⟨b, rfl, q2⟩ := q1
  unfold Rep at r1
  refine ⟨b, r1, ?_⟩
  cases b with
  | false =>
    rw [if_neg Bool.false_ne_true] at q2 ⊢
    exact cE_at N1 q2 hx fun v k d H2 q e N2 h => post v k d H2 q N2.ex N2.row h
  | true => exact post _ _ _ _ q2 e1 N1.row rep_bl
theorem pd_not (ha : PE X a (cE G E da)) : PE X (.UnaryOp .Not a pos) (cE G E (dNotV da)) := pe_weak (pe_not ha) fun _ _ _ h => by
  obtain ⟨H0, r, γ, ρ, XX, Q, env, q, hx, post⟩ := h
  refine cE_at (Now.start env) q hx fun x k1 d1 H1 q1 e1 N1 r1 => ?_
  obtain ⟨b, rfl, q2⟩ := q1
  unfold Rep at r1
  exact ⟨b, r1, post _ _ _ _ q2 e1 N1.row rep_bl⟩
def dIf (t : DTT) (da db : DTE) : DTE := fun XX ρ Q => t XX ρ fun b => if b = true then da XX ρ Q else db XX ρ Q
theorem pd_if (hc : PT X c (cT G E ta)) (ha : PE X a (cE G E da)) (hb : PE X b (cE G E db)) : PE X (.IfExp c a b pos) (cE G E (dIf ta da db)) := pe_weak (pe_ifExp hc ha hb) fun _ _ _ h => by
  obtain ⟨H0, r, γ, ρ, XX, Q, env, q, hx, post⟩ := h
  refine cT_at (Now.start env) q hx fun b H1 q1 e1 N1 => ?_
  cases b with
  | true =>
    rw [if_pos rfl] at q1 ⊢
    exact cE_at N1 q1 hx fun v k d H2 q e N2 h => post v k d H2 q N2.ex N2.row h
  | false =>
    rw [if_neg Bool.false_ne_true] at q1 ⊢
    exact cE_at N1 q1 hx fun v k d H2 q e N2 h => post v k d H2 q N2.ex N2.row h
/-! ### chains of comparisons -/
def dChain (r1 r2 : DR2) (da db dc : DTE) : DTE := fun XX ρ Q => da XX ρ fun k1 d1 => db XX ρ fun k2 d2 => r1 k1 d1 k2 d2 fun _ z => ∃ b, z = .bl b ∧
  if b = true then dc XX ρ fun k3 d3 => r2 k2 d2 k3 d3 Q else Q .fr (.bl false)
theorem cE_chain {r1 r2 : DR2} {Qv : VK} (h : cE G E (dChain r1 r2 da db dc) σ H Qv) : tChain (cR2 G r1) (cR2 G r2) (cE G E da) (cE G E db) (cE G E dc) σ H Qv := by
  obtain ⟨H0, r, γ, ρ, XX, Q, env, q, hx, post⟩ := h
  refine cE_at (Now.start env) q hx fun x k1 d1 H1 q1 e1 N1 r1 => ?_
  refine cE_at N1 q1 hx fun y k2 d2 H2 q2 e2 N2 r2 => ?_
  refine ⟨H0, r, Mo γ σ ρ, H, k1, d1, k2, d2, _, N2.cxt, q2, N1.cxt.pers e2 r1, r2, fun v k d H3 q e hr h => ?_⟩
  obtain ⟨b, rfl, q3⟩ := q
  unfold Rep at h
  refine ⟨b, h, ?_⟩
  have N3 := N2.step e hr
  cases b with
  | true =>
    rw [if_pos rfl] at q3 ⊢
    refine cE_at N3 q3 hx fun z k3 d3 H4 q4 e4 N4 r4 => ?_
    exact ⟨H0, r, Mo γ σ ρ, H, k2, d2, k3, d3, Q, N4.cxt, q4, N3.cxt.pers e4 (N2.cxt.pers e r2), r4, fun v k d H' q e hr h => post v k d H' q (N4.ex.trans e) hr h⟩
  | false => exact post _ _ _ _ q3 N3.ex N3.row rep_bl
theorem pd_chain {op op' : CmpOp} {r1 r2 : DR2} (ho : OpR X (compareOp op) (cR2 G r1)) (ho' : OpR X (compareOp op') (cR2 G r2)) (ha : PE X a (cE G E da)) (hb : PE X b (cE G E db)) (hc : PE X c (cE G E dc))
    (hm : lastMarks [op, op'] [b, c] = false := by with_unfolding_all rfl) : PE X (.Compare a [op, op'] [b, c] pos) (cE G E (dChain r1 r2 da db dc)) := pe_weak (pe_chain ho ho' ha hb hc hm) fun _ _ _ h => cE_chain h
theorem ptd_chain {op op' : CmpOp} {r1 r2 : DR2} (ho : OpR X (compareOp op) (cR2 G r1)) (ho' : OpR X (compareOp op') (cR2 G r2)) (ha : PE X a (cE G E da)) (hb : PE X b (cE G E db)) (hc : PE X c (cE G E dc))
    (hm : lastMarks [op, op'] [b, c] = false := by with_unfolding_all rfl) : PT X (.Compare a [op, op'] [b, c] pos) (cT G E (dB (dChain r1 r2 da db dc))) := pt_weak (pt_chain ho ho' ha hb hc hm) fun _ _ _ h => by
    obtain ⟨H0, r, γ, ρ, XX, Q, env, q, hx, post⟩ := h
    refine cE_chain ⟨H0, r, γ, ρ, XX, _, env, q, hx, fun v k d H' q e hr h => ?_⟩
    obtain ⟨b, rfl, q2⟩ := q
    unfold Rep at h
    exact ⟨b, h, post b H' q2 e hr⟩
/-! ### arguments, displays -/
def dNil : DTA := fun _ _ Q => Q .fr []
def dCons (da : DTE) (dr : DTA) : DTA := fun XX ρ Q => da XX ρ fun k d => dr XX ρ fun k' ds => Q (k.min k') (d :: ds)
variable {es : List Expr} {dr : DTA}
theorem pad_nil : PA X [] (cA G E dNil) := pa_weak pa_nil fun _ _ _ h => by
  obtain ⟨H0, r, γ, ρ, XX, Q, env, q, hx, post⟩ := h
  exact post [] .fr [] _ q .refl env.row .nil
theorem pad_cons {e : Expr} (ha : PE X e (cE G E da)) (hr : PA X es (cA G E dr)) (hs : starEach (e :: es) X.env = (false, eval e X.env) :: starEach es X.env := by rfl) : PA X (e :: es) (cA G E (dCons da dr)) := pa_weak (pa_cons ha hr hs) fun _ _ _ h => by
  obtain ⟨H0, r, γ, ρ, XX, Q, env, q, hx, post⟩ := h
  refine cE_at (Now.start env) q hx fun x k1 d1 H1 q1 e1 N1 r1 => ?_
  refine cA_at N1 q1 hx fun xs k2 ds H2 q2 e2 N2 r2 => ?_
  exact post _ _ _ _ q2 N2.ex N2.row (.cons ((N1.cxt.pers e2 r1).imp fun _ p => N2.cxt.minl p) (r2.imp fun _ p => N2.cxt.minr p))
def dTup (t : DTA) : DTE := fun XX ρ Q => t XX ρ fun k ds => ds.length ≤ 100000 ∧ Q k (.tup ds)
/-- a new container of flat things is new through and through -/
def up (k : Kd) (ds : List D) : Kd := if D.flats ds = true then .fr else k
theorem Post.newU {Qv : VK} {Q : KQ} (post : Post G H0 r M Hs H Q Qv) {k : Kd} {ds : List D} {xs : List V} {v : V} {H' : Hp} (e : SameR r H H') (hr : RowOk G.K r H') (q : Q (up k ds) (.lst ds)) {p : Addr} (hv : v = .ref p) (hp : H p = none) (hx : H' p = some (.lst xs))
    (hk : k.P H0 r M Hs p) (hf : Kd.P H0 r M Hs .fr p) (h : Reps G r (k.P H0 r M Hs) H' ds xs) : Qv v H' := by
  subst hv
  unfold up at q
  split at q
  · rename_i f
    refine post _ _ _ _ q e hr ?_
    unfold Rep
    exact ⟨p, xs, rfl, hf, hx, Reps.flat ds xs f h⟩
  · refine post _ _ _ _ q e hr ?_
    unfold Rep
    exact ⟨p, xs, rfl, hk, hx, h⟩
def dLst (t : DTA) : DTE := fun XX ρ Q => t XX ρ fun k ds => ds.length ≤ 100000 ∧ Q (up k ds) (.lst ds)
theorem sz_of {n : Nat} (h : n ≤ 100000) : n ≤ sizeLine := Nat.le_trans h (by decide)
theorem sz_lt {n : Nat} (h : n < 100000) : n < sizeLine := Nat.lt_of_lt_of_le h (by decide)
theorem Cxt.tup (c : Cxt G H0 r M Hs H) {k : Kd} {ds : List D} {xs : List V} {p : Addr} (hp : H p = none) (h : Reps G r (k.P H0 r M Hs) H ds xs) : Rep G r (k.P H0 r M Hs) (upd H p (.tup xs)) (.tup ds) (.ref p) := by
  unfold Rep
  exact ⟨p, xs, rfl, upd_same, c.perss (.new hp) h⟩
theorem Cxt.lst (c : Cxt G H0 r M Hs H) {k : Kd} {ds : List D} {xs : List V} {p : Addr} (hp : H p = none) (h : Reps G r (k.P H0 r M Hs) H ds xs) : Rep G r (k.P H0 r M Hs) (upd H p (.lst xs)) (.lst ds) (.ref p) := by
  unfold Rep
  exact ⟨p, xs, rfl, c.of_fr (c.newp hp), upd_same, c.perss (.new hp) h⟩
theorem pd_tup {x1} (h : PA X es (cA G E dr)) : PE X (.Tuple es x1 pos) (cE G E (dTup dr)) := pe_weak (pe_tup h) fun _ _ _ h => by
  obtain ⟨H0, r, γ, ρ, XX, Q, env, q, hx, post⟩ := h
  refine cA_at (Now.start env) q hx fun xs k ds H1 q1 e1 N1 r1 => ⟨sz_of (by rw [r1.length]; exact q1.1), fun p hp => ?_⟩
  exact post _ _ _ _ q1.2 (e1.trans (.new hp)) (N1.row.new hp) (N1.cxt.tup hp r1)
theorem pd_lst (h : PA X es (cA G E dr)) : PE X (.List es pos) (cE G E (dLst dr)) := pe_weak (pe_lst h) fun _ _ _ h => by
  obtain ⟨H0, r, γ, ρ, XX, Q, env, q, hx, post⟩ := h
  refine cA_at (Now.start env) q hx fun xs k ds H1 q1 e1 N1 r1 => ⟨sz_of (by rw [r1.length]; exact q1.1), fun p hp => ?_⟩
  exact post.newU (e1.trans (.new hp)) (N1.row.new hp) q1.2 rfl (e1.there _ hp) upd_same (N1.cxt.of_fr (N1.cxt.newp hp)) (N1.cxt.newp hp) (N1.cxt.perss (.new hp) r1)
end
end HD

set_option Elab.async false
set_option linter.all false
set_option maxRecDepth 100000
namespace HD
open PySem PySem.Spec PyProof.Rows L2
/-! ### data as the library's data: for == -/
mutual
def D.py : D → PyData
  | .non => .none
  | .bl b => .bool b
  | .int i => .int i
  | .str s => .str s
  | .tup ds => .tuple (D.pys ds)
  | .lst ds => .list (D.pys ds)
  | .obj _ => .none
  | .row => .none
  | .dic _ _ _ => .none
  | .fls _ => .none
def D.pys : List D → List PyData
  | [] => []
  | d :: ds => d.py :: D.pys ds
end
mutual
/-- data that may be compared: no object in it, texts of good signs, at most n deep -/
def D.cmp : Nat → D → Bool
  | _, .non => true
  | _, .bl _ => true
  | _, .int _ => true
  | _, .str s => PyData.strOk s
  | 0, .tup _ => false
  | n + 1, .tup ds => D.cmps n ds
  | 0, .lst _ => false
  | n + 1, .lst ds => D.cmps n ds
  | _, .obj _ => false
  | _, .row => false
  | _, .dic _ _ _ => false
  | _, .fls _ => false
def D.cmps : Nat → List D → Bool
  | _, [] => true
  | n, d :: ds => d.cmp n && D.cmps n ds
end
def deq (a b : D) : Bool := PyData.eqv a.py b.py
section
variable {G : Gp} {E : XK} {H0 H H' Hs : Hp} {r : Option Addr} {M P : Addr → Prop} {K : PySem.W.Frag}
mutual
theorem cmp_lay : ∀ (n : Nat) (d : D), d.cmp n = true → d.py.canLay0 = true ∧ d.py.depth ≤ n
  | n, .non, _ => ⟨rfl, Nat.zero_le _⟩
  | n, .bl _, _ => ⟨rfl, Nat.zero_le _⟩
  | n, .int _, _ => ⟨rfl, Nat.zero_le _⟩
  | n, .str s, h => by
    unfold D.cmp at h
    unfold D.py PyData.canLay0 PyData.depth
    exact ⟨h, Nat.zero_le _⟩
  | 0, .tup ds, h => by unfold D.cmp at h; cases h
  | n + 1, .tup ds, h => by
    unfold D.cmp at h
    have q := cmps_lay n ds h
    unfold D.py PyData.canLay0 PyData.depth
    exact ⟨q.1, Nat.succ_le_succ q.2⟩
  | 0, .lst ds, h => by unfold D.cmp at h; cases h
  | n + 1, .lst ds, h => by
    unfold D.cmp at h
    have q := cmps_lay n ds h
    unfold D.py PyData.canLay0 PyData.depth
    exact ⟨q.1, Nat.succ_le_succ q.2⟩
  | n, .obj _, h => by unfold D.cmp at h; cases h
  | n, .row, h => by unfold D.cmp at h; cases h
  | n, .dic _ _ _, h => by unfold D.cmp at h; cases h
  | n, .fls _, h => by unfold D.cmp at h; cases h
theorem cmps_lay : ∀ (n : Nat) (ds : List D), D.cmps n ds = true → PyData.canLayAll0 (D.pys ds) = true ∧ PyData.depthAll (D.pys ds) ≤ n
  | n, [], _ => ⟨rfl, Nat.zero_le _⟩
  | n, d :: ds, h => by
    unfold D.cmps at h
    rw [Bool.and_eq_true] at h
    have q1 := cmp_lay n d h.1
    have q2 := cmps_lay n ds h.2
    unfold D.pys PyData.canLayAll0 PyData.depthAll
    exact ⟨by rw [q1.1, q2.1]; rfl, Nat.max_le.mpr ⟨q1.2, q2.2⟩⟩
end
theorem cmp_shaped {d : D} (h : d.cmp 60 = true) : SeqAt.shaped d.py = true := by
  have q := cmp_lay 60 d h
  unfold SeqAt.shaped
  rw [q.1, decide_eq_true (Nat.le_trans q.2 (by decide))]
  rfl
mutual
theorem rep_dp : ∀ (n : Nat) (d : D) (v : V), d.cmp n = true → Rep G r P H d v → Dp K H v d.py
  | n, .non, v, _, h => by unfold Rep at h; subst h; exact .non
  | n, .bl _, v, _, h => by unfold Rep at h; subst h; exact .bl _
  | n, .int _, v, _, h => by unfold Rep at h; subst h; exact .int _
  | n, .str s, v, _, h => by unfold Rep at h; subst h; exact .str _
  | 0, .tup ds, v, f, h => by unfold D.cmp at f; cases f
  | n + 1, .tup ds, v, f, h => by
    unfold D.cmp at f
    unfold Rep at h
    obtain ⟨a, xs, rfl, h1, h2⟩ := h
    unfold D.py
    exact .tup (SqT.of h1) (reps_dp n ds xs f h2)
  | 0, .lst ds, v, f, h => by unfold D.cmp at f; cases f
  | n + 1, .lst ds, v, f, h => by
    unfold D.cmp at f
    unfold Rep at h
    obtain ⟨a, xs, rfl, _, h1, h2⟩ := h
    unfold D.py
    exact .lst (SqL.of h1) (reps_dp n ds xs f h2)
  | n, .obj _, v, f, h => by unfold D.cmp at f; cases f
  | n, .row, v, f, h => by unfold D.cmp at f; cases f
  | n, .dic _ _ _, v, f, h => by unfold D.cmp at f; cases f
  | n, .fls _, v, f, h => by unfold D.cmp at f; cases f
theorem reps_dp : ∀ (n : Nat) (ds : List D) (xs : List V), D.cmps n ds = true → Reps G r P H ds xs → DpAll K H xs (D.pys ds)
  | n, [], xs, _, h => by unfold Reps at h; subst h; exact .nil
  | n, d :: ds, xs, f, h => by
    unfold D.cmps at f
    rw [Bool.and_eq_true] at f
    unfold Reps at h
    obtain ⟨x, ys, rfl, h1, h2⟩ := h
    unfold D.pys
    exact .cons (rep_dp n d x f.1 h1) (reps_dp n ds ys f.2 h2)
end
/-! ### flat values -/
def D.scl : D → Bool
  | .non => true
  | .bl _ => true
  | .int _ => true
  | .str _ => true
  | _ => false
def D.sv : D → V
  | .bl b => .bl b
  | .int i => .int i
  | .str s => .str s
  | _ => .non
def dEqS (a b : D) : Bool := eqV a.sv b.sv
theorem rep_sv : ∀ {d : D} {v : V}, d.scl = true → Rep G r P H d v → v = d.sv
  | .non, _, _, h => by unfold Rep at h; exact h
  | .bl _, _, _, h => by unfold Rep at h; exact h
  | .int _, _, _, h => by unfold Rep at h; exact h
  | .str _, _, _, h => by unfold Rep at h; exact h
  | .tup _, _, f, _ => by cases f
  | .lst _, _, f, _ => by cases f
  | .obj _, _, f, _ => by cases f
  | .row, _, f, _ => by cases f
  | .dic _ _ _, _, f, _ => by cases f
  | .fls _, _, f, _ => by cases f
theorem reps_sv : ∀ {ds : List D} {xs : List V}, ds.all D.scl = true → Reps G r P H ds xs → xs = ds.map D.sv
  | [], _, _, h => by unfold Reps at h; exact h
  | d :: ds, _, f, h => by
    rw [List.all_cons, Bool.and_eq_true] at f
    unfold Reps at h
    obtain ⟨x, ys, rfl, h1, h2⟩ := h
    rw [List.map_cons, rep_sv f.1 h1, reps_sv f.2 h2]
theorem scl_flat : ∀ {d : D}, d.scl = true → flatV d.sv = true
  | .non, _ => rfl
  | .bl _, _ => rfl
  | .int _, _ => rfl
  | .str _, _ => rfl
  | .tup _, f => by cases f
  | .lst _, f => by cases f
  | .obj _, f => by cases f
  | .row, f => by cases f
  | .dic _ _ _, f => by cases f
  | .fls _, f => by cases f
theorem scls_flat : ∀ {ds : List D}, ds.all D.scl = true → (ds.map D.sv).all flatV = true
  | [], _ => rfl
  | d :: ds, f => by
    rw [List.all_cons, Bool.and_eq_true] at f
    rw [List.map_cons, List.all_cons, scl_flat f.1, scls_flat f.2]
    rfl
theorem inV_any (d : D) : ∀ ds : List D, inV d.sv (ds.map D.sv) = ds.any fun y => dEqS y d
  | [] => rfl
  | e :: ds => by
    unfold inV
    rw [List.map_cons, List.any_cons, List.any_cons]
    have q := inV_any d ds
    unfold inV at q
    rw [q]
    rfl
theorem rep_ref {d : D} {v : V} {ds : List D} (h : Rep G r P H (.lst ds) v) : ∃ a xs, v = .ref a ∧ P a ∧ H a = some (.lst xs) ∧ Reps G r P H ds xs := by unfold Rep at h; exact h
theorem rep_tup {v : V} {ds : List D} (h : Rep G r P H (.tup ds) v) : ∃ a xs, v = .ref a ∧ H a = some (.tup xs) ∧ Reps G r P H ds xs := by unfold Rep at h; exact h
theorem rep_lst {v : V} {ds : List D} (h : Rep G r P H (.lst ds) v) : ∃ a xs, v = .ref a ∧ P a ∧ H a = some (.lst xs) ∧ Reps G r P H ds xs := by unfold Rep at h; exact h
theorem rep_fls {v : V} {ds : List D} (h : Rep G r P H (.fls ds) v) : ∃ a o xs, v = .ref a ∧ H a = some (.frz o (.lst xs)) ∧ Reps G r P H ds xs := by
  unfold Rep at h; exact h
theorem rep_i {v : V} {i : Int} (h : Rep G r P H (.int i) v) : v = .int i := by unfold Rep at h; exact h
theorem rep_b {v : V} {i : Bool} (h : Rep G r P H (.bl i) v) : v = .bl i := by unfold Rep at h; exact h
theorem rep_s {v : V} {i : Str} (h : Rep G r P H (.str i) v) : v = .str i := by unfold Rep at h; exact h
theorem rep_n {v : V} (h : Rep G r P H .non v) : v = .non := by unfold Rep at h; exact h
theorem Post.newt (c : Cxt G H0 r M Hs H) {Q : KQ} {Qv : VK} (post : Post G H0 r M Hs H Q Qv) {k : Kd} {ds : List D} {xs : List V} {p : Addr} (hp : H p = none) (q : Q k (.tup ds)) (h : Reps G r (k.P H0 r M Hs) H ds xs) : Qv (.ref p) (upd H p (.tup xs)) :=
  post _ _ _ _ q (.new hp) (c.row.new hp) (c.tup hp h)
theorem Post.newl (c : Cxt G H0 r M Hs H) {Q : KQ} {Qv : VK} (post : Post G H0 r M Hs H Q Qv) {k : Kd} {ds : List D} {xs : List V} {p : Addr} (hp : H p = none) (q : Q (up k ds) (.lst ds)) (h : Reps G r (k.P H0 r M Hs) H ds xs) : Qv (.ref p) (upd H p (.lst xs)) :=
  post.newU (.new hp) (c.row.new hp) q rfl hp upd_same (c.of_fr (c.newp hp)) (c.newp hp) (c.perss (.new hp) h)
theorem Post.old (c : Cxt G H0 r M Hs H) {Q : KQ} {Qv : VK} (post : Post G H0 r M Hs H Q Qv) {k : Kd} {d : D} {v : V} (q : Q k d) (h : Rep G r (k.P H0 r M Hs) H d v) : Qv v H :=
  post _ _ _ _ q .refl c.row h
theorem reps_nil {ds : List D} (h : Reps G r P H ds []) : ds = [] := by
  cases ds with
  | nil => rfl
  | cons d ds => unfold Reps at h; obtain ⟨_, _, z, _⟩ := h; cases z
theorem reps_nil' {xs : List V} (h : Reps G r P H [] xs) : xs = [] := by unfold Reps at h; exact h
/-! ### the operations -/
def rdAdd : DR2 := fun k1 d1 k2 d2 Q => match d1, d2 with
  | .int i, .int j => Q .fr (.int (i + j))
  | .str a, .str b => a.length + b.length ≤ 100000 ∧ Q .fr (.str (a ++ b))
  | .tup a, .tup b => a.length + b.length ≤ 100000 ∧ Q (k1.min k2) (.tup (a ++ b))
  | .lst a, .lst b => a.length + b.length ≤ 100000 ∧ Q (up (k1.min k2) (a ++ b)) (.lst (a ++ b))
  | _, _ => False
def rdInt (g : Int → Int → D) (C : Int → Int → Prop) : DR2 := fun _ d1 _ d2 Q => match d1, d2 with
  | .int i, .int j => C i j ∧ Q .fr (g i j)
  | _, _ => False
def rdMul : DR2 := fun k1 d1 _ d2 Q => match d1, d2 with
  | .int i, .int j => ((-(2 ^ 64) < i ∧ i < 2 ^ 64) ∨ (-(2 ^ 64) < j ∧ j < 2 ^ 64)) ∧ Q .fr (.int (i * j))
  | .lst a, .int j => -(2 ^ 63) ≤ j ∧ j < 2 ^ 63 ∧ a.length * j.toNat ≤ 100000 ∧ Q (up k1 (List.replicate j.toNat a).flatten) (.lst (List.replicate j.toNat a).flatten)
  | _, _ => False
def rdEq : DR2 := fun _ d1 _ d2 Q => d1.cmp 60 = true ∧ d2.cmp 60 = true ∧ Q .fr (.bl (deq d1 d2))
def rdNe : DR2 := fun _ d1 _ d2 Q => d1.cmp 60 = true ∧ d2.cmp 60 = true ∧ Q .fr (.bl (!deq d1 d2))
def rdIs : DR2 := fun _ d1 _ d2 Q => match d2 with
  | .non => d1.scl = true ∧ Q .fr (.bl (dEqS d1 .non)) ∨ d1.scl = false ∧ Q .fr (.bl false)
  | .bl b => match d1 with
    | .bl a => Q .fr (.bl (decide (a = b)))
    | _ => False
  | _ => False
def rdIsNot : DR2 := fun k1 d1 k2 d2 Q => rdIs k1 d1 k2 d2 fun _ d => ∃ b, d = .bl b ∧ Q .fr (.bl (!b))
def rdIn (neg : Bool) : DR2 := fun _ d1 _ d2 Q => match d2 with
  | .lst ds => d1.scl = true ∧ ds.all D.scl = true ∧ Q .fr (.bl (neg ^^ ds.any fun y => dEqS y d1))
  | .tup ds => d1.scl = true ∧ ds.all D.scl = true ∧ Q .fr (.bl (neg ^^ ds.any fun y => dEqS y d1))
  | .str z => match d1 with
    | .str s => ∃ c, s = ⟨#[c]⟩ ∧ Q .fr (.bl (neg ^^ decide (c ∈ z.cps.toList)))
    | _ => False
  | _ => False
variable {X : Cx}
theorem reps_flatten {xs : List V} {ds : List D} (h : Reps G r P H ds xs) : ∀ n, Reps G r P H (List.replicate n ds).flatten (List.replicate n xs).flatten
  | 0 => .nil
  | n + 1 => by
    rw [List.replicate_succ, List.replicate_succ, List.flatten_cons, List.flatten_cons]
    exact h.append (reps_flatten h n)
theorem od_add : OpR X (binaryOp .Add) (cR2 G rdAdd) := by
  intro pins s σ H x y v u Qv I rx ry h
  obtain ⟨H0, r, M, Hs, k1, d1, k2, d2, Q, c, q, r1, r2, post⟩ := h
  unfold rdAdd at q
  split at q
  · rw [rep_i r1] at rx
    rw [rep_i r2] at ry
    exact op_add pins s σ H _ _ v u Qv I rx ry ⟨_, _, rfl, rfl, post.old c q rep_int⟩
  · rw [rep_s r1] at rx
    rw [rep_s r2] at ry
    exact op_add_str pins s σ H _ _ v u Qv I rx ry ⟨_, _, rfl, rfl, sz_of q.1, post.old c q.2 rep_str⟩
  · obtain ⟨a, xs, rfl, h1, h2⟩ := rep_tup r1
    obtain ⟨b, ys, rfl, h3, h4⟩ := rep_tup r2
    refine op_catA pins s σ H _ _ v u Qv I rx ry ⟨a, b, xs, ys, rfl, rfl, SqT.of h1, SqT.of h3, sz_of (by rw [h2.length, h4.length]; exact q.1), fun e => ?_, fun e1 e2 => ?_, fun e1 e2 p hp => ?_⟩
    · subst e
      have e' := reps_nil h2
      subst e'
      rw [List.nil_append] at q
      exact post.old c q.2 (r2.imp fun _ p => c.minr p)
    · subst e2
      have e' := reps_nil h4
      subst e'
      rw [List.append_nil] at q
      exact post.old c q.2 (r1.imp fun _ p => c.minl p)
    · exact post.newt c hp q.2 ((h2.imp fun _ p => c.minl p).append (h4.imp fun _ p => c.minr p))
  · obtain ⟨a, xs, rfl, _, h1, h2⟩ := rep_lst r1
    obtain ⟨b, ys, rfl, _, h3, h4⟩ := rep_lst r2
    refine op_cat pins s σ H _ _ v u Qv I rx ry ⟨a, b, xs, ys, rfl, rfl, h1, h3, sz_of (by rw [h2.length, h4.length]; exact q.1), fun p hp => ?_⟩
    exact post.newl c hp q.2 ((h2.imp fun _ p => c.minl p).append (h4.imp fun _ p => c.minr p))
  · exact q.elim
theorem od_int {f : Value → Value → Sem Value} {g : Int → Int → V} {gd : Int → Int → D} {C C' : Int → Int → Prop} (ho : OpR X f (rI C g)) (hc : ∀ i j, C' i j → C i j) (hg : ∀ i j r P H, Rep G r P H (gd i j) (g i j)) : OpR X f (cR2 G (rdInt gd C')) := by
  intro pins s σ H x y v u Qv I rx ry h
  obtain ⟨H0, r, M, Hs, k1, d1, k2, d2, Q, c, q, r1, r2, post⟩ := h
  unfold rdInt at q
  split at q
  · rw [rep_i r1] at rx
    rw [rep_i r2] at ry
    exact ho pins s σ H _ _ v u Qv I rx ry ⟨_, _, rfl, rfl, hc _ _ q.1, post.old c q.2 (hg _ _ _ _ _)⟩
  · exact q.elim
theorem od_int0 {f : Value → Value → Sem Value} {g : Int → Int → V} {gd : Int → Int → D} (ho : OpR X f (rI0 g)) (hg : ∀ i j r P H, Rep G r P H (gd i j) (g i j)) : OpR X f (cR2 G (rdInt gd fun _ _ => True)) := by
  intro pins s σ H x y v u Qv I rx ry h
  obtain ⟨H0, r, M, Hs, k1, d1, k2, d2, Q, c, q, r1, r2, post⟩ := h
  unfold rdInt at q
  split at q
  · rw [rep_i r1] at rx
    rw [rep_i r2] at ry
    exact ho pins s σ H _ _ v u Qv I rx ry ⟨_, _, rfl, rfl, post.old c q.2 (hg _ _ _ _ _)⟩
  · exact q.elim
abbrev rdSub : DR2 := rdInt (fun i j => .int (i - j)) fun _ _ => True
abbrev rdDiv : DR2 := rdInt (fun i j => .int (i / j)) fun _ j => 0 < j ∧ j < 1073741824
abbrev rdMod : DR2 := rdInt (fun i j => .int (i % j)) fun _ j => 0 < j
abbrev rdPow : DR2 := rdInt (fun i j => .int (i ^ j.toNat)) fun i j => 0 ≤ j ∧ j ≤ 1000000 ∧ i.natAbs < 2 ^ 64
abbrev rdLt : DR2 := rdInt (fun i j => .bl (decide (i < j))) fun _ _ => True
abbrev rdLe : DR2 := rdInt (fun i j => .bl (decide (i ≤ j))) fun _ _ => True
abbrev rdGt : DR2 := rdInt (fun i j => .bl (decide (j < i))) fun _ _ => True
abbrev rdGe : DR2 := rdInt (fun i j => .bl (decide (j ≤ i))) fun _ _ => True
theorem od_sub : OpR X (binaryOp .Sub) (cR2 G rdSub) := od_int0 op_sub fun _ _ _ _ _ => rep_int
theorem od_div : OpR X (binaryOp .FloorDiv) (cR2 G rdDiv) := od_int op_fdiv (fun _ _ h => h) fun _ _ _ _ _ => rep_int
theorem od_mod : OpR X (binaryOp .Mod) (cR2 G rdMod) := od_int op_mod (fun _ _ h => h) fun _ _ _ _ _ => rep_int
theorem od_pow : OpR X (binaryOp .Pow) (cR2 G rdPow) := od_int op_pow (fun _ _ h => h) fun _ _ _ _ _ => rep_int
theorem od_lt : OpR X (compareOp .Lt) (cR2 G rdLt) := od_int0 op_lt fun _ _ _ _ _ => rep_bl
theorem od_le : OpR X (compareOp .LtE) (cR2 G rdLe) := od_int0 op_le fun _ _ _ _ _ => rep_bl
theorem od_gt : OpR X (compareOp .Gt) (cR2 G rdGt) := od_int0 op_gt fun _ _ _ _ _ => rep_bl
theorem od_ge : OpR X (compareOp .GtE) (cR2 G rdGe) := od_int0 op_ge fun _ _ _ _ _ => rep_bl
theorem od_mul : OpR X (binaryOp .Mult) (cR2 G rdMul) := by
  intro pins s σ H x y v u Qv I rx ry h
  obtain ⟨H0, r, M, Hs, k1, d1, k2, d2, Q, c, q, r1, r2, post⟩ := h
  unfold rdMul at q
  split at q
  · rw [rep_i r1] at rx
    rw [rep_i r2] at ry
    exact op_mul pins s σ H _ _ v u Qv I rx ry ⟨_, _, rfl, rfl, q.1, post.old c q.2 rep_int⟩
  · obtain ⟨a, xs, rfl, _, h1, h2⟩ := rep_lst r1
    rw [rep_i r2] at ry
    refine op_rep pins s σ H _ _ v u Qv I rx ry ⟨a, _, xs, rfl, rfl, h1, q.1, q.2.1, sz_of (by rw [h2.length]; exact q.2.2.1), fun p hp => ?_⟩
    exact post.newl c hp q.2.2.2 (reps_flatten h2 _)
  · exact q.elim
theorem od_eq (hu : X.A.units + 64 < cLine) : OpR X (compareOp .Eq) (cR2 G rdEq) := by
  intro pins s σ H x y v u Qv I rx ry h
  obtain ⟨H0, r, M, Hs, k1, d1, k2, d2, Q, c, q, r1, r2, post⟩ := h
  exact op_eqD hu pins s σ H _ _ v u Qv I rx ry ⟨d1.py, d2.py, rep_dp 60 d1 x q.1 r1, rep_dp 60 d2 y q.2.1 r2, cmp_shaped q.1, cmp_shaped q.2.1, post.old c q.2.2 rep_bl⟩
theorem od_ne (hu : X.A.units + 64 < cLine) : OpR X (compareOp .NotEq) (cR2 G rdNe) := by
  intro pins s σ H x y v u Qv I rx ry h
  obtain ⟨H0, r, M, Hs, k1, d1, k2, d2, Q, c, q, r1, r2, post⟩ := h
  exact op_neD hu pins s σ H _ _ v u Qv I rx ry ⟨d1.py, d2.py, rep_dp 60 d1 x q.1 r1, rep_dp 60 d2 y q.2.1 r2, cmp_shaped q.1, cmp_shaped q.2.1, post.old c q.2.2 rep_bl⟩
theorem xor_f (b : Bool) : (false ^^ b) = b := by cases b <;> rfl
theorem xor_t (b : Bool) : (true ^^ b) = !b := by cases b <;> rfl
theorem od_in : OpR X (compareOp .In) (cR2 G (rdIn false)) := by
  intro pins s σ H x y v u Qv I rx ry h
  obtain ⟨H0, r, M, Hs, k1, d1, k2, d2, Q, c, q, r1, r2, post⟩ := h
  unfold rdIn at q
  split at q
  · obtain ⟨a, xs, rfl, _, h1, h2⟩ := rep_lst r2
    rw [rep_sv q.1 r1] at rx
    rw [reps_sv q.2.1 h2] at h1
    refine op_in_seq pins s σ H _ _ v u Qv I rx ry ⟨a, _, rfl, .inl (SqL.of h1), scl_flat q.1, scls_flat q.2.1, ?_⟩
    rw [if_neg Bool.false_ne_true, inV_any]
    exact post.old c (by have z := q.2.2; rw [xor_f] at z; exact z) rep_bl
  · obtain ⟨a, xs, rfl, h1, h2⟩ := rep_tup r2
    rw [rep_sv q.1 r1] at rx
    rw [reps_sv q.2.1 h2] at h1
    refine op_in_seq pins s σ H _ _ v u Qv I rx ry ⟨a, _, rfl, .inr (SqT.of h1), scl_flat q.1, scls_flat q.2.1, ?_⟩
    rw [if_neg Bool.false_ne_true, inV_any]
    exact post.old c (by have z := q.2.2; rw [xor_f] at z; exact z) rep_bl
  · rename_i z
    split at q
    · obtain ⟨e, rfl, q⟩ := q
      rw [rep_s r1] at rx
      rw [rep_s r2] at ry
      exact op_in_sign pins s σ H _ _ v u Qv I rx ry ⟨_, _, rfl, rfl, post.old c (by rw [xor_f] at q; exact q) rep_bl⟩
    · exact q.elim
  · exact q.elim
theorem od_notin : OpR X (compareOp .NotIn) (cR2 G (rdIn true)) := by
  intro pins s σ H x y v u Qv I rx ry h
  obtain ⟨H0, r, M, Hs, k1, d1, k2, d2, Q, c, q, r1, r2, post⟩ := h
  unfold rdIn at q
  split at q
  · obtain ⟨a, xs, rfl, _, h1, h2⟩ := rep_lst r2
    rw [rep_sv q.1 r1] at rx
    rw [reps_sv q.2.1 h2] at h1
    refine op_notIn_seq pins s σ H _ _ v u Qv I rx ry ⟨a, _, rfl, .inl (SqL.of h1), scl_flat q.1, scls_flat q.2.1, ?_⟩
    rw [if_pos rfl, inV_any]
    exact post.old c (by have z := q.2.2; rw [xor_t] at z; exact z) rep_bl
  · obtain ⟨a, xs, rfl, h1, h2⟩ := rep_tup r2
    rw [rep_sv q.1 r1] at rx
    rw [reps_sv q.2.1 h2] at h1
    refine op_notIn_seq pins s σ H _ _ v u Qv I rx ry ⟨a, _, rfl, .inr (SqT.of h1), scl_flat q.1, scls_flat q.2.1, ?_⟩
    rw [if_pos rfl, inV_any]
    exact post.old c (by have z := q.2.2; rw [xor_t] at z; exact z) rep_bl
  · rename_i z
    split at q
    · obtain ⟨e, rfl, q⟩ := q
      rw [rep_s r1] at rx
      rw [rep_s r2] at ry
      exact op_notIn_sign pins s σ H _ _ v u Qv I rx ry ⟨_, _, rfl, rfl, post.old c (by rw [xor_t] at q; exact q) rep_bl⟩
    · exact q.elim
  · exact q.elim
theorem rep_nn : ∀ {d : D} {v : V}, d.scl = false → Rep G r P H d v → v ≠ .non
  | .non, _, f, h => by cases f
  | .bl _, _, f, h => by cases f
  | .int _, _, f, h => by cases f
  | .str _, _, f, h => by cases f
  | .tup _, _, f, h => by obtain ⟨a, xs, rfl, _⟩ := rep_tup h; exact fun z => nomatch z
  | .lst _, _, f, h => by obtain ⟨a, xs, rfl, _⟩ := rep_lst h; exact fun z => nomatch z
  | .obj _, _, f, h => by unfold Rep at h; obtain ⟨a, _, _, _, _, rfl, _⟩ := h; exact fun z => nomatch z
  | .row, _, f, h => by unfold Rep at h; obtain ⟨a, rfl, _⟩ := h; exact fun z => nomatch z
  | .dic _ _ _, _, f, h => by unfold Rep at h; obtain ⟨a, _, _, rfl, _⟩ := h; exact fun z => nomatch z
  | .fls _, _, f, h => by unfold Rep at h; obtain ⟨a, _, _, rfl, _⟩ := h; exact fun z => nomatch z
theorem isn_eq : ∀ {d : D}, d.scl = true → decide (d.sv = .non) = dEqS d .non
  | .non, _ => rfl
  | .bl _, _ => rfl
  | .int _, _ => rfl
  | .str _, _ => rfl
  | .tup _, f => by cases f
  | .lst _, f => by cases f
  | .obj _, f => by cases f
  | .row, f => by cases f
  | .dic _ _ _, f => by cases f
  | .fls _, f => by cases f
theorem od_is : OpR X (compareOp .Is) (cR2 G rdIs) := by
  intro pins s σ H x y v u Qv I rx ry h
  obtain ⟨H0, r, M, Hs, k1, d1, k2, d2, Q, c, q, r1, r2, post⟩ := h
  unfold rdIs at q
  split at q
  · rw [rep_n r2] at ry
    rcases q with ⟨f, q⟩ | ⟨f, q⟩
    · rw [rep_sv f r1] at rx
      refine op_isN pins s σ H _ _ v u Qv I rx ry ⟨rfl, ?_⟩
      rw [isn_eq f]
      exact post.old c q rep_bl
    · refine op_isN pins s σ H _ _ v u Qv I rx ry ⟨rfl, ?_⟩
      rw [decide_eq_false (rep_nn f r1)]
      exact post.old c q rep_bl
  · split at q
    · rw [rep_b r1] at rx
      rw [rep_b r2] at ry
      exact op_is_bl pins s σ H _ _ v u Qv I rx ry ⟨_, _, rfl, rfl, post.old c q rep_bl⟩
    · exact q.elim
  · exact q.elim
theorem od_isnot : OpR X (compareOp .IsNot) (cR2 G rdIsNot) := by
  intro pins s σ H x y v u Qv I rx ry h
  obtain ⟨H0, r, M, Hs, k1, d1, k2, d2, Q, c, q, r1, r2, post⟩ := h
  unfold rdIsNot rdIs at q
  split at q
  · rw [rep_n r2] at ry
    rcases q with ⟨f, b, e, q⟩ | ⟨f, b, e, q⟩
    · cases e
      rw [rep_sv f r1] at rx
      refine op_notN pins s σ H _ _ v u Qv I rx ry ⟨rfl, ?_⟩
      rw [isn_eq f]
      exact post.old c q rep_bl
    · cases e
      refine op_notN pins s σ H _ _ v u Qv I rx ry ⟨rfl, ?_⟩
      rw [decide_eq_false (rep_nn f r1)]
      exact post.old c q rep_bl
  · split at q
    · obtain ⟨b, e, q⟩ := q
      cases e
      rw [rep_b r1] at rx
      rw [rep_b r2] at ry
      exact op_isnot_bl pins s σ H _ _ v u Qv I rx ry ⟨_, _, rfl, rfl, post.old c q rep_bl⟩
    · exact q.elim
  · exact q.elim
end
end HD

set_option Elab.async false
set_option linter.all false
set_option maxRecDepth 100000
namespace HD
open PySem PySem.Spec PyProof.Rows L2
section
variable {G : Gp} {E : XK} {H0 H H' Hs : Hp} {r : Option Addr} {M P : Addr → Prop} {K : PySem.W.Frag} {X : Cx} {σ : L2.St} {ρ : Rho} {γ : List Gh} {XX : Exn → Prop}
theorem atI_reps {ds : List D} {xs : List V} {i : Int} {d : D} (h : Reps G r P H ds xs) (e : atI ds i = some d) : ∃ x, atI xs i = some x ∧ Rep G r P H d x := by
  unfold atI at e ⊢
  rw [← h.length] at e
  cases q : ixN xs.length i with
  | none => rw [q] at e; cases e
  | some j =>
    rw [q] at e
    exact h.get (show ds[j]? = some d from e)
def rdIx : DR2 := fun k1 d1 _ d2 Q => match d1, d2 with
  | .lst ds, .int i => ∃ d, atI ds i = some d ∧ Q k1 d
  | .tup ds, .int i => ∃ d, atI ds i = some d ∧ Q k1 d
  | .fls ds, .int i => ∃ d, atI ds i = some d ∧ Q k1 d
  | .str s, .int i => s.length ≤ 100000 ∧ ∃ c, atI s.cps.toList i = some c ∧ Q .fr (.str ⟨#[c]⟩)
  | _, _ => False
theorem ixd : IxR X (cR2 G rdIx) := by
  intro value slice pins s σ H x y v u Qv I rx ry h hs
  obtain ⟨H0, r, M, Hs, k1, d1, k2, d2, Q, c, q, r1, r2, post⟩ := h
  unfold rdIx at q
  split at q
  · obtain ⟨a, xs, rfl, _, h1, h2⟩ := rep_lst r1
    rw [rep_i r2] at ry
    obtain ⟨d, e, q⟩ := q
    obtain ⟨z, e', rz⟩ := atI_reps h2 e
    exact ix_list value slice pins s σ H _ _ v u Qv I rx ry ⟨a, xs, _, z, rfl, rfl, SqL.of h1, e', post.old c q rz⟩ hs
  · obtain ⟨a, xs, rfl, h1, h2⟩ := rep_tup r1
    rw [rep_i r2] at ry
    obtain ⟨d, e, q⟩ := q
    obtain ⟨z, e', rz⟩ := atI_reps h2 e
    exact ix_tup value slice pins s σ H _ _ v u Qv I rx ry ⟨a, xs, _, z, rfl, rfl, SqT.of h1, e', post.old c q rz⟩ hs
  · obtain ⟨a, o, xs, rfl, h1, h2⟩ := rep_fls r1
    rw [rep_i r2] at ry
    obtain ⟨d, e, q⟩ := q
    obtain ⟨z, e', rz⟩ := atI_reps h2 e
    exact ix_list value slice pins s σ H _ _ v u Qv I rx ry ⟨a, xs, _, z, rfl, rfl, (.inl (.inr ⟨_, h1⟩)), e', post.old c q rz⟩ hs
  · rw [rep_s r1] at rx
    rw [rep_i r2] at ry
    obtain ⟨hl, z, e, q⟩ := q
    exact ix_str value slice pins s σ H _ _ v u Qv I rx ry ⟨_, _, z, rfl, rfl, sz_of hl, e, post.old c q rep_str⟩ hs
  · exact q.elim
variable {a b e : Expr} {da db dc te : DTE} {pos p2 : Pos}
theorem pd_ix (ha : PE X a (cE G E da)) (hb : PE X b (cE G E db)) (hs : PlainIx b := by intro _ _; rfl) : PE X (.Subscript a b pos) (cE G E (dOp rdIx da db)) :=
  pe_weak (pe_ix ixd ha hb hs) fun _ _ _ h => cE_op h
/-! ### slices -/
abbrev DTO := (Exn → Prop) → Rho → (Option Int → Prop) → Prop
def cO (G : Gp) (E : XK) (t : DTO) : TO := fun σ H Qv => ∃ H0 r γ ρ XX Q, EnvOk G H0 r γ H σ ρ ∧ t XX ρ Q ∧ XOk G E XX r H0 ∧ ∀ o H', Q o → SameR r H H' → RowOk G.K r H' → Qv o H'
def dNo : DTO := fun _ _ Q => Q none
def dPt (t : DTE) : DTO := fun XX ρ Q => t XX ρ fun _ d => ∃ i, d = .int i ∧ Q (some i)
theorem cO_at {t : DTO} {Q : Option Int → Prop} {Qv : Option Int → Hp → Prop} (N : Now G H0 r γ Hs H σ ρ) (ht : t XX ρ Q) (hx : XOk G E XX r H0)
    (post : ∀ b H', Q b → SameR r H H' → Now G H0 r γ Hs H' σ ρ → Qv b H') : cO G E t σ H Qv :=
  ⟨H0, r, γ, ρ, XX, Q, N.now, ht, hx, fun b H' q e hr => post b H' q e (N.step e hr)⟩
theorem pod_no : PO X none (cO G E dNo) := ⟨fun pins s σ H Q I h => po_none.run pins s σ H Q I (by
  obtain ⟨H0, r, γ, ρ, XX, Q, env, q, hx, post⟩ := h
  exact post none H q .refl env.row)⟩
theorem pod_some (h : PE X e (cE G E te)) : PO X (some e) (cO G E (dPt te)) := ⟨fun pins s σ H Q I hh => (po_some h).run pins s σ H Q I (by
  obtain ⟨H0, r, γ, ρ, XX, Q, env, q, hx, post⟩ := hh
  refine cE_at (Now.start env) q hx fun x k1 d1 H1 q1 e1 N1 r1 => ?_
  obtain ⟨i, rfl, q2⟩ := q1
  exact ⟨i, rep_i r1, post _ H1 q2 e1 N1.row⟩)⟩
def cutD {α : Type} (xs : List α) (lo hi : Option Int) : List α := (xs.drop (HT.sIx xs.length 0 lo)).take (HT.sIx xs.length xs.length hi - HT.sIx xs.length 0 lo)
theorem reps_cut {ds : List D} {xs : List V} {lo hi : Option Int} (h : Reps G r P H ds xs) : Reps G r P H (cutD ds lo hi) (cutV xs lo hi) := by
  unfold cutD cutV
  rw [h.length]
  exact (h.drop _).take _
def rdSl (k : Kd) (d : D) (lo hi : Option Int) (Q : KQ) : Prop := match d with
  | .lst ds => Q (up k (cutD ds lo hi)) (.lst (cutD ds lo hi))
  | .tup ds => Q k (.tup (cutD ds lo hi))
  | .str s => s.length ≤ 100000 ∧ Q .fr (.str (cutS s lo hi))
  | _ => False
def cSl (G : Gp) : V → Option Int → Option Int → Hp → VK → Prop := fun x lo hi H Qv => ∃ H0 r M Hs k d Q, Cxt G H0 r M Hs H ∧ rdSl k d lo hi Q ∧ Rep G r (k.P H0 r M Hs) H d x ∧ Post G H0 r M Hs H Q Qv
theorem sld : SlR X (cSl G) := by
  intro pins s σ H x v vl vu lo hi sl Qv I rx hs pl pu h
  obtain ⟨H0, r, M, Hs, k, d, Q, c, q, r1, post⟩ := h
  unfold rdSl at q
  split at q
  · obtain ⟨a, xs, rfl, _, h1, h2⟩ := rep_lst r1
    exact sl_list pins s σ H _ v vl vu lo hi sl Qv I rx hs pl pu ⟨a, xs, rfl, SqL.of h1, fun p hp => post.newl c hp q (reps_cut h2)⟩
  · obtain ⟨a, xs, rfl, h1, h2⟩ := rep_tup r1
    refine sl_tupA pins s σ H _ v vl vu lo hi sl Qv I rx hs pl pu ⟨a, xs, rfl, SqT.of h1, fun hw => ?_, fun hw p hp => post.newt c hp q (reps_cut h2)⟩
    rename_i ds
    have e : cutD ds lo hi = ds := by
      unfold cutD
      rw [← h2.length, hw.1, hw.2, List.drop_zero, Nat.sub_zero, h2.length, List.take_length]
    rw [e] at q
    exact post.old c q r1
  · rw [rep_s r1] at rx
    exact sl_str pins s σ H _ v vl vu lo hi sl Qv I rx hs pl pu ⟨_, rfl, sz_of q.1, post.old c q.2 rep_str⟩
  · exact q.elim
def dSl (te : DTE) (tl th : DTO) : DTE := fun XX ρ Q => te XX ρ fun k d => tl XX ρ fun lo => th XX ρ fun hi => rdSl k d lo hi Q
variable {lo hi : Option Expr} {tl th : DTO}
theorem pd_slice (he : PE X e (cE G E te)) (hl : PO X lo (cO G E tl)) (hu : PO X hi (cO G E th)) : PE X (.Subscript e (.Slice lo hi none p2) pos) (cE G E (dSl te tl th)) := pe_weak (pe_slice sld he hl hu) fun σ H _ h => by
  obtain ⟨H0, r, γ, ρ, XX, Q, env, q, hx, post⟩ := h
  refine cE_at (Now.start env) q hx fun x k1 d1 H1 q1 e1 N1 r1 => ?_
  refine cO_at N1 q1 hx fun lo H2 q2 e2 N2 => ?_
  refine cO_at N2 q2 hx fun hi H3 q3 e3 N3 => ?_
  exact ⟨H0, r, Mo γ σ ρ, H, k1, d1, Q, N3.cxt, q3, N2.cxt.pers e3 (N1.cxt.pers e2 r1), fun v k d H' q e hr h => post v k d H' q (N3.ex.trans e) hr h⟩
/-! ### calls of built-ins -/
abbrev DRN := Kd → List D → KQ → Prop
def cRn (G : Gp) (rd : DRN) : List V → Hp → VK → Prop := fun vs H Qv => ∃ H0 r M Hs k ds Q, Cxt G H0 r M Hs H ∧ rd k ds Q ∧ Reps G r (k.P H0 r M Hs) H ds vs ∧ Post G H0 r M Hs H Q Qv
def dCB (rd : DRN) (t : DTA) : DTE := fun XX ρ Q => t XX ρ fun k ds => rd k ds Q
theorem cE_cb {rd : DRN} {t : DTA} {Qv : VK} (h : cE G E (dCB rd t) σ H Qv) : tCB (cRn G rd) (cA G E t) σ H Qv := by
  obtain ⟨H0, r, γ, ρ, XX, Q, env, q, hx, post⟩ := h
  refine cA_at (Now.start env) q hx fun xs k ds H1 q1 e1 N1 r1 => ?_
  exact ⟨H0, r, Mo γ σ ρ, H, k, ds, Q, N1.cxt, q1, r1, fun v k d H' q e hr h => post v k d H' q (e1.trans e) hr h⟩
variable {x m : Str} {p apos : Pos} {es : List Expr} {t : DTA} {id T : String}
theorem pd_callB {rd : DRN} (hc : CallR X (.builtin id) (cRn G rd)) (hg : Gl X x) (hm : X.mg x = none) (hv : bootBuiltins x = some (.builtin id)) (ha : PA X (e :: es) (cA G E t)) (hn : x ≠ "__name__" := by decide) (hdb : (x == ("__debug__" : Str)) = false := by decide)
    (he : starEach (e :: es) X.env = (false, eval e X.env) :: starEach es X.env := by rfl) (hpl : (backTo pos (starEach es X.env)).any (·.1) = false := by rfl) : PE X (.Call (.Name x p) (e :: es) [] pos) (cE G E (dCB rd t)) :=
  pe_weak (pe_callB hc hg hm hv ha hn hdb he hpl) fun _ _ _ h => cE_cb h
theorem pd_callTy {rd : DRN} (hc : CallR X (.type T) (cRn G rd)) (hg : Gl X x) (hm : X.mg x = none) (hv : bootBuiltins x = some (.type T)) (ha : PA X (e :: es) (cA G E t)) (hn : x ≠ "__name__" := by decide) (hdb : (x == ("__debug__" : Str)) = false := by decide)
    (he : starEach (e :: es) X.env = (false, eval e X.env) :: starEach es X.env := by rfl) (hpl : (backTo pos (starEach es X.env)).any (·.1) = false := by rfl) : PE X (.Call (.Name x p) (e :: es) [] pos) (cE G E (dCB rd t)) :=
  pe_weak (pe_callTy hc hg hm hv ha hn hdb he hpl) fun _ _ _ h => cE_cb h
theorem reps1 {d : D} {vs : List V} (h : Reps G r P H [d] vs) : ∃ v, vs = [v] ∧ Rep G r P H d v := by
  unfold Reps at h
  obtain ⟨x, ys, rfl, h1, h2⟩ := h
  exact ⟨x, by rw [reps_nil' h2], h1⟩
theorem reps2 {d e : D} {vs : List V} (h : Reps G r P H [d, e] vs) : ∃ v w, vs = [v, w] ∧ Rep G r P H d v ∧ Rep G r P H e w := by
  unfold Reps at h
  obtain ⟨x, ys, rfl, h1, h2⟩ := h
  obtain ⟨w, rfl, h3⟩ := reps1 h2
  exact ⟨x, w, rfl, h1, h3⟩
def rdLen : DRN := fun _ ds Q => match ds with
  | [.lst ds] => Q .fr (.int ds.length)
  | [.tup ds] => Q .fr (.int ds.length)
  | [.fls ds] => Q .fr (.int ds.length)
  | [.str s] => s.length ≤ 100000 ∧ Q .fr (.int s.length)
  | _ => False
theorem cd_len : CallR X (.builtin "len") (cRn G rdLen) := by
  intro pins s σ H xs us Qv I rs h
  obtain ⟨H0, r, M, Hs, k, ds, Q, c, q, r1, post⟩ := h
  unfold rdLen at q
  split at q
  · obtain ⟨v, rfl, h⟩ := reps1 r1
    obtain ⟨a, xs, rfl, _, h1, h2⟩ := rep_lst h
    rw [← h2.length] at q
    exact call_len_seq pins s σ H _ us Qv I rs ⟨a, xs, rfl, .inl (SqL.of h1), post.old c q rep_int⟩
  · obtain ⟨v, rfl, h⟩ := reps1 r1
    obtain ⟨a, xs, rfl, h1, h2⟩ := rep_tup h
    rw [← h2.length] at q
    exact call_len_seq pins s σ H _ us Qv I rs ⟨a, xs, rfl, .inr (SqT.of h1), post.old c q rep_int⟩
  · obtain ⟨v, rfl, h⟩ := reps1 r1
    obtain ⟨a, o, xs, rfl, h1, h2⟩ := rep_fls h
    rw [← h2.length] at q
    exact call_len_seq pins s σ H _ us Qv I rs ⟨a, xs, rfl, .inl ((.inl (.inr ⟨_, h1⟩))), post.old c q rep_int⟩
  · obtain ⟨v, rfl, h⟩ := reps1 r1
    cases rep_s h
    exact call_len_str pins s σ H _ us Qv I rs ⟨_, rfl, sz_of q.1, post.old c q.2 rep_int⟩
  · exact q.elim
def rdList : DRN := fun k ds Q => match ds with
  | [.lst ds] => Q (up k ds) (.lst ds)
  | [.tup ds] => Q (up k ds) (.lst ds)
  | [.fls ds] => Q (up k ds) (.lst ds)
  | _ => False
theorem cd_list : CallR X (.type "list") (cRn G rdList) := by
  intro pins s σ H xs us Qv I rs h
  obtain ⟨H0, r, M, Hs, k, ds, Q, c, q, r1, post⟩ := h
  unfold rdList at q
  split at q
  · obtain ⟨v, rfl, h⟩ := reps1 r1
    obtain ⟨a, xs, rfl, _, h1, h2⟩ := rep_lst h
    exact call_list_of pins s σ H _ us Qv I rs ⟨a, xs, rfl, .inl (SqL.of h1), fun l hl => post.newl c hl q h2⟩
  · obtain ⟨v, rfl, h⟩ := reps1 r1
    obtain ⟨a, xs, rfl, h1, h2⟩ := rep_tup h
    exact call_list_of pins s σ H _ us Qv I rs ⟨a, xs, rfl, .inr (SqT.of h1), fun l hl => post.newl c hl q h2⟩
  · obtain ⟨v, rfl, h⟩ := reps1 r1
    obtain ⟨a, o, xs, rfl, h1, h2⟩ := rep_fls h
    exact call_list_of pins s σ H _ us Qv I rs ⟨a, xs, rfl, .inl ((.inl (.inr ⟨_, h1⟩))), fun l hl => post.newl c hl q h2⟩
  · exact q.elim
def rdTuple : DRN := fun k ds Q => match ds with
  | [.lst ds] => Q k (.tup ds)
  | [.tup ds] => Q k (.tup ds)
  | _ => False
theorem cd_tuple : CallR X (.type "tuple") (cRn G rdTuple) := by
  intro pins s σ H xs us Qv I rs h
  obtain ⟨H0, r, M, Hs, k, ds, Q, c, q, r1, post⟩ := h
  unfold rdTuple at q
  split at q
  · obtain ⟨v, rfl, h⟩ := reps1 r1
    obtain ⟨a, xs, rfl, _, h1, h2⟩ := rep_lst h
    exact call_tuple_of pins s σ H _ us Qv I rs ⟨a, xs, rfl, .inl ⟨SqL.of h1, fun l hl => post.newt c hl q h2⟩⟩
  · obtain ⟨v, rfl, h⟩ := reps1 r1
    obtain ⟨a, xs, rfl, h1, h2⟩ := rep_tup h
    exact call_tuple_of pins s σ H _ us Qv I rs ⟨a, xs, rfl, .inr ⟨SqT.of h1, post.old c q h⟩⟩
  · exact q.elim
def rdIntC : DRN := fun _ ds Q => match ds with
  | [.int i] => Q .fr (.int i)
  | [.bl b] => Q .fr (.int (if b then 1 else 0))
  | [.str a] => ∃ n, PySem.intText? a = some n ∧ a.length ≤ 640 ∧ Q .fr (.int n)
  | _ => False
theorem cd_int : CallR X (.type "int") (cRn G rdIntC) := by
  intro pins s σ H xs us Qv I rs h
  obtain ⟨H0, r, M, Hs, k, ds, Q, c, q, r1, post⟩ := h
  unfold rdIntC at q
  split at q
  · obtain ⟨v, rfl, h⟩ := reps1 r1
    cases rep_i h
    exact call_int1 pins s σ H _ us Qv I rs (.inl ⟨_, rfl, post.old c q rep_int⟩)
  · obtain ⟨v, rfl, h⟩ := reps1 r1
    cases rep_b h
    exact call_int1 pins s σ H _ us Qv I rs (.inr ⟨_, rfl, post.old c q rep_int⟩)
  · obtain ⟨v, rfl, h⟩ := reps1 r1
    cases rep_s h
    obtain ⟨n, h1, h2, q⟩ := q
    exact call_int_str pins s σ H _ us Qv I rs ⟨_, n, rfl, h1, h2, post.old c q rep_int⟩
  · exact q.elim
def rdStrC : DRN := fun _ ds Q => match ds with
  | [.int i] => i.natAbs.log2 < 1920 ∧ Q .fr (.str (toString i))
  | _ => False
theorem cd_str : CallR X (.type "str") (cRn G rdStrC) := by
  intro pins s σ H xs us Qv I rs h
  obtain ⟨H0, r, M, Hs, k, ds, Q, c, q, r1, post⟩ := h
  unfold rdStrC at q
  split at q
  · obtain ⟨v, rfl, h⟩ := reps1 r1
    cases rep_i h
    exact call_str_int pins s σ H _ us Qv I rs ⟨_, rfl, q.1, post.old c q.2 rep_str⟩
  · exact q.elim
def rdSumC : DRN := fun _ ds Q => match ds with
  | [.lst ds] => ∃ ns : List Int, ds = ns.map D.int ∧ Q .fr (.int ns.sum)
  | _ => False
theorem cd_sum (hc : X.calm = true) (hK : X.K = K) : CallR X (.builtin "sum") (cRn G rdSumC) := by
  intro pins s σ H xs us Qv I rs h
  obtain ⟨H0, r, M, Hs, k, ds, Q, c, q, r1, post⟩ := h
  unfold rdSumC at q
  split at q
  · obtain ⟨v, rfl, h⟩ := reps1 r1
    obtain ⟨a, xs, rfl, _, h1, h2⟩ := rep_lst h
    obtain ⟨ns, rfl, q⟩ := q
    rw [h2.ints] at h1
    exact cr_sum hc pins s σ H _ us Qv I rs ⟨a, ns, rfl, SqL.of h1, post.old c q rep_int⟩
  · exact q.elim
def rdMin : DRN := fun _ ds Q => match ds with
  | [.int i, .int j] => Q .fr (.int (if j < i then j else i))
  | [.lst ds] => ∃ ns : List Int, ds = ns.map D.int ∧ 0 < ns.length ∧ ∀ m, m ∈ ns → (∀ y, y ∈ ns → m ≤ y) → Q .fr (.int m)
  | _ => False
def rdMax : DRN := fun _ ds Q => match ds with
  | [.int i, .int j] => Q .fr (.int (if j > i then j else i))
  | [.lst ds] => ∃ ns : List Int, ds = ns.map D.int ∧ 0 < ns.length ∧ ∀ m, m ∈ ns → (∀ y, y ∈ ns → y ≤ m) → Q .fr (.int m)
  | _ => False
theorem cd_min (hc : X.calm = true) : CallR X (.builtin "min") (cRn G rdMin) := by
  intro pins s σ H xs us Qv I rs h
  obtain ⟨H0, r, M, Hs, k, ds, Q, c, q, r1, post⟩ := h
  unfold rdMin at q
  split at q
  · obtain ⟨v, w, rfl, h, h'⟩ := reps2 r1
    cases rep_i h
    cases rep_i h'
    exact call_min2 hc pins s σ H _ us Qv I rs ⟨_, _, rfl, post.old c q rep_int⟩
  · obtain ⟨v, rfl, h⟩ := reps1 r1
    obtain ⟨a, xs, rfl, _, h1, h2⟩ := rep_lst h
    obtain ⟨ns, rfl, hl, q⟩ := q
    rw [h2.ints] at h1
    exact cr_min hc pins s σ H _ us Qv I rs ⟨a, ns, rfl, SqL.of h1, hl, fun m h3 h4 => post.old c (q m h3 h4) rep_int⟩
  · exact q.elim
theorem cd_max (hc : X.calm = true) : CallR X (.builtin "max") (cRn G rdMax) := by
  intro pins s σ H xs us Qv I rs h
  obtain ⟨H0, r, M, Hs, k, ds, Q, c, q, r1, post⟩ := h
  unfold rdMax at q
  split at q
  · obtain ⟨v, w, rfl, h, h'⟩ := reps2 r1
    cases rep_i h
    cases rep_i h'
    exact call_max2 hc pins s σ H _ us Qv I rs ⟨_, _, rfl, post.old c q rep_int⟩
  · obtain ⟨v, rfl, h⟩ := reps1 r1
    obtain ⟨a, xs, rfl, _, h1, h2⟩ := rep_lst h
    obtain ⟨ns, rfl, hl, q⟩ := q
    rw [h2.ints] at h1
    exact cr_max hc pins s σ H _ us Qv I rs ⟨a, ns, rfl, SqL.of h1, hl, fun m h3 h4 => post.old c (q m h3 h4) rep_int⟩
  · exact q.elim
def rdSorted : DRN := fun _ ds Q => match ds with
  | [.lst ds] => ∃ ns : List Int, ds = ns.map D.int ∧ ∀ ns' : List Int, ns'.Perm ns → ns'.Pairwise (· ≤ ·) → Q .fr (.lst (ns'.map D.int))
  | _ => False
end
end HD

set_option Elab.async false
set_option linter.all false
set_option maxRecDepth 100000
namespace HD
open PySem PySem.Spec PyProof.Rows L2
/-! ### statements -/
structure DEnds where
  nx : Rho → Prop
  rt : D → Prop
  bk : Rho → Prop := fun _ => False
  ct : Rho → Prop := fun _ => False
abbrev DTS := (Exn → Prop) → DEnds → Rho → Prop
structure Lnk (G : Gp) (H0 : Hp) (r : Option Addr) (γ : List Gh) (DD : DEnds) (D : Ends) : Prop where
  nx : ∀ σ H ρ, EnvOk G H0 r γ H σ ρ → DD.nx ρ → D.nx σ H
  bk : ∀ σ H ρ, EnvOk G H0 r γ H σ ρ → DD.bk ρ → D.bk σ H
  ct : ∀ σ H ρ, EnvOk G H0 r γ H σ ρ → DD.ct ρ → D.ct σ H
  rt : ∀ v d H, DD.rt d → SameR r H0 H → RowOk G.K r H → Rep G r (fun a => H0 a = none) H d v → D.rt v H
def cS (G : Gp) (E : XK) (t : DTS) : TS := fun D σ H => ∃ H0 r γ ρ XX DD, EnvOk G H0 r γ H σ ρ ∧ t XX DD ρ ∧ XOk G E XX r H0 ∧ Lnk G H0 r γ DD D
section
variable {G : Gp} {E : XK} {H0 H H' Hs : Hp} {r : Option Addr} {M P : Addr → Prop} {K : PySem.W.Frag} {X : Cx} {σ : L2.St} {ρ : Rho} {γ : List Gh} {XX : Exn → Prop}
variable {st : Stmt} {rest body : List Stmt} {t u : DTS} {e c : Expr} {pos : Pos} {te : DTE} {tc : DTT}
theorem cS_at {DD : DEnds} {D : Ends} (env : EnvOk G H0 r γ H σ ρ) (ht : t XX DD ρ) (hx : XOk G E XX r H0) (l : Lnk G H0 r γ DD D) : cS G E t D σ H := ⟨H0, r, γ, ρ, XX, DD, env, ht, hx, l⟩
def dNext : DTS := fun _ DD ρ => DD.nx ρ
def dSeq (t u : DTS) : DTS := fun XX DD ρ => t XX { DD with nx := u XX DD } ρ
theorem pssd_nil : PSs X [] (cS G E dNext) := pss_weak pss_nil fun _ σ H h => by
  obtain ⟨H0, r, γ, ρ, XX, DD, env, q, hx, l⟩ := h
  exact l.nx σ H ρ env q
theorem pssd_cons (h1 : PS X st (cS G E t)) (h2 : PSs X rest (cS G E u)) : PSs X (st :: rest) (cS G E (dSeq t u)) := pss_weak (pss_cons h1 h2) fun D σ H h => by
  obtain ⟨H0, r, γ, ρ, XX, DD, env, q, hx, l⟩ := h
  exact cS_at env q hx ⟨fun σ' H' ρ' e q => cS_at e q hx l, l.bk, l.ct, l.rt⟩
theorem pssd_one (h1 : PS X st (cS G E t)) : PSs X [st] (cS G E t) := pss_one h1
def dBrk : DTS := fun _ DD ρ => DD.bk ρ
def dCnt : DTS := fun _ DD ρ => DD.ct ρ
theorem psd_pass : PS X (.Pass pos) (cS G E dNext) := ps_weak ps_pass fun _ σ H h => by
  obtain ⟨H0, r, γ, ρ, XX, DD, env, q, hx, l⟩ := h
  exact l.nx σ H ρ env q
theorem psd_break : PS X (.Break pos) (cS G E dBrk) := ps_weak ps_break fun _ σ H h => by
  obtain ⟨H0, r, γ, ρ, XX, DD, env, q, hx, l⟩ := h
  exact l.bk σ H ρ env q
theorem psd_continue : PS X (.Continue pos) (cS G E dCnt) := ps_weak ps_continue fun _ σ H h => by
  obtain ⟨H0, r, γ, ρ, XX, DD, env, q, hx, l⟩ := h
  exact l.ct σ H ρ env q
def dDrop (te : DTE) : DTS := fun XX DD ρ => te XX ρ fun _ _ => DD.nx ρ
theorem psd_expr (he : PE X e (cE G E te)) (hs : swapsWith e none pos.line X.env = pure false := by rfl) : PS X (.Expr e pos) (cS G E (dDrop te)) := ps_weak (ps_expr he hs) fun D σ H h => by
  obtain ⟨H0, r, γ, ρ, XX, DD, env, q, hx, l⟩ := h
  exact cE_at (Now.start env) q hx fun v k d H1 q1 e1 N1 r1 => l.nx σ H1 ρ N1.now q1
/-- what may leave the def as made in it -/
def out (k : Kd) (d : D) : Prop := match k with
  | .fr => True
  | .nw => True
  | _ => d.flat = true
def dRet (te : DTE) : DTS := fun XX DD ρ => te XX ρ fun k d => out k d ∧ DD.rt d
theorem out_rep (N : Now G H0 r γ Hs H σ ρ) {k : Kd} {d : D} {v : V} (o : out k d) (h : Rep G r (k.P H0 r (Mo γ σ ρ) Hs) H d v) : Rep G r (fun a => H0 a = none) H d v := by
  cases k with
  | fr => exact h.imp fun a p => N.env.ext.there a p
  | nw => exact h.imp fun a p => p.1
  | sf => exact Rep.flat d v o h
  | an => exact Rep.flat d v o h
theorem psd_ret (he : PE X e (cE G E te)) : PS X (.Return (some e) pos) (cS G E (dRet te)) := ps_weak (ps_ret he) fun D σ H h => by
  obtain ⟨H0, r, γ, ρ, XX, DD, env, q, hx, l⟩ := h
  refine cE_at (Now.start env) q hx fun v k d H1 q1 e1 N1 r1 => ?_
  exact l.rt v d H1 q1.2 N1.now.ext N1.row (out_rep N1 q1.1 r1)
/-- return of a name that owns its list -/
def dRetV (i : Nat) : DTS := fun _ DD ρ => ∃ ds, ρ[i]? = some (.own true ds) ∧ DD.rt (.lst ds)
theorem psd_retV {i : Nat} {x : Str} {p : Pos} (he : PE X (.Name x p) (tVar i)) : PS X (.Return (some (.Name x p)) pos) (cS G E (dRetV i)) := ps_weak (ps_ret he) fun D σ H h => by
  obtain ⟨H0, r, γ, ρ, XX, DD, env, ⟨ds, h1, q⟩, hx, l⟩ := h
  have il := (List.getElem?_eq_some_iff.mp h1).1
  obtain ⟨u, hu⟩ : ∃ u, σ[i]? = some u := ⟨_, List.getElem?_eq_getElem (by rw [env.len]; exact il)⟩
  obtain ⟨p, xs, rfl, hp0, hp, hc⟩ := env.sl i _ u h1 hu
  refine ⟨_, hu, l.rt _ (.lst ds) H q env.ext env.row ?_⟩
  unfold Rep
  exact ⟨p, xs, rfl, hp0, hp, hc.imp fun a p => p.1⟩
theorem psd_retN : PS X (.Return none pos) (cS G E (fun _ DD _ => DD.rt .non)) := ps_weak ps_retN fun D σ H h => by
  obtain ⟨H0, r, γ, ρ, XX, DD, env, q, hx, l⟩ := h
  exact l.rt _ _ H q env.ext env.row rep_non
def dIfS (c : DTT) (t u : DTS) : DTS := fun XX DD ρ => c XX ρ fun b => if b = true then t XX DD ρ else u XX DD ρ
theorem psd_if {a b : List Stmt} (hc : PT X c (cT G E tc)) (ha : PSs X a (cS G E t)) (hb : PSs X b (cS G E u)) : PS X (.If c a b pos) (cS G E (dIfS tc t u)) := ps_weak (ps_if hc ha hb) fun D σ H h => by
  obtain ⟨H0, r, γ, ρ, XX, DD, env, q, hx, l⟩ := h
  refine cT_at (Now.start env) q hx fun b H1 q1 e1 N1 => ?_
  cases b with
  | true =>
    rw [if_pos rfl] at q1 ⊢
    exact cS_at N1.now q1 hx l
  | false =>
    rw [if_neg Bool.false_ne_true] at q1 ⊢
    exact cS_at N1.now q1 hx l
/-- an owner becomes a holder, ahead of a statement -/
def dRel (i : Nat) (t : DTS) : DTS := fun XX DD ρ => ∃ n ds, ρ[i]? = some (.own n ds) ∧ t XX DD (ρ.set i (.v n (.lst ds)))
theorem psd_rel (i : Nat) (h : PS X st (cS G E t)) : PS X st (cS G E (dRel i t)) := ps_weak h fun D σ H h => by
  obtain ⟨H0, r, γ, ρ, XX, DD, env, ⟨n, ds, h1, q⟩, hx, l⟩ := h
  exact cS_at (env.rel h1) q hx l
/-! ### targets -/
abbrev DTG := Bool → D → Rho → (Rho → Prop) → Prop
def cG (G : Gp) (js : List Nat) (g : DTG) : TG := fun v σ H Qst => ∃ H0 r γ ρ n d Q, EnvOk G H0 r γ H σ ρ ∧ Rep G r ((nk n).P H0 r (Mo γ σ ρ) H) H d v ∧ g n d ρ Q ∧
  ∀ σ' ρ', EnvOk G H0 r γ H σ' ρ' → Q ρ' → (∀ a, Mo γ σ' ρ' a → Mo γ σ ρ a) → (σ'.length = σ.length ∧ ∀ i, i ∉ js → σ'[i]? = σ[i]? ∧ ρ'[i]? = ρ[i]?) → Qst σ' H
def dgName (i : Nat) : DTG := fun n d ρ Q => Q (ρ.set i (.v n d))
variable {x : Str} {i : Nat}
theorem pgd_name (hN : X.N.Nodup) (hi : X.N[i]? = some x) (hx : Loc X.env.scope x) (hf : X.fn x = true ∨ X.env.scope.names.lookup x = some .local := by first | exact .inl rfl | exact .inr rfl | assumption) : PG X (.Name x pos) (cG G [i] (dgName i)) := by
  refine ⟨fun pins s σ H v u Q I r h => (pg_name (pos := pos) hN hi hx hf).run pins s σ H v u Q I r ?_⟩
  obtain ⟨H0, r, γ, ρ, n, d, Q, env, hr, q, post⟩ := h
  exact post _ _ (env.setv hr) q (fun a m => (mo_set m env.len).resolve_right fun z => z) ⟨List.length_set, fun j hj => ⟨List.getElem?_set_ne fun z => hj (by rw [z]; exact List.mem_cons_self), List.getElem?_set_ne fun z => hj (by rw [z]; exact List.mem_cons_self)⟩⟩
abbrev DTGs := Bool → List D → Rho → (Rho → Prop) → Prop
def cGs (G : Gp) (js : List Nat) (g : DTGs) : TGs := fun vs σ H Qst => ∃ H0 r γ ρ n ds Q, EnvOk G H0 r γ H σ ρ ∧ Reps G r ((nk n).P H0 r (Mo γ σ ρ) H) H ds vs ∧ g n ds ρ Q ∧
  ∀ σ' ρ', EnvOk G H0 r γ H σ' ρ' → Q ρ' → (∀ a, Mo γ σ' ρ' a → Mo γ σ ρ a) → (σ'.length = σ.length ∧ ∀ i, i ∉ js → σ'[i]? = σ[i]? ∧ ρ'[i]? = ρ[i]?) → Qst σ' H
def dgNil : DTGs := fun _ ds ρ Q => ds = [] ∧ Q ρ
def dgCons (g : DTG) (gs : DTGs) : DTGs := fun n ds ρ Q => ∃ d r, ds = d :: r ∧ g n d ρ fun ρ' => gs n r ρ' Q
theorem pgsd_nil : PGs X [] (cGs G [] dgNil) := by
  refine ⟨fun pins s σ H vs us Q I r h => pgs_nil.run pins s σ H vs us Q I r ?_⟩
  obtain ⟨H0, r, γ, ρ, n, ds, Q, env, hr, ⟨e, q⟩, post⟩ := h
  subst e
  exact ⟨reps_nil' hr, post _ _ env q (fun _ m => m) ⟨rfl, fun _ _ => ⟨rfl, rfl⟩⟩⟩
end
end HD

set_option Elab.async false
set_option linter.all false
set_option maxRecDepth 100000
namespace HD
open PySem PySem.Spec PyProof.Rows L2
section
variable {G : Gp} {E : XK} {H0 H H' Hs : Hp} {r : Option Addr} {M P : Addr → Prop} {K : PySem.W.Frag} {X : Cx} {σ : L2.St} {ρ : Rho} {γ : List Gh} {XX : Exn → Prop}
variable {st : Stmt} {rest body : List Stmt} {t u : DTS} {e c tg iter : Expr} {pos : Pos} {te : DTE} {tc : DTT} {es : List Expr} {js js' : List Nat} {g : DTG} {gs : DTGs} {x : Str} {i : Nat}
theorem pgsd_cons (h1 : PG X e (cG G js g)) (h2 : PGs X es (cGs G js' gs)) (hs : (assignEach (e :: es) X.env).map (·.2) = assign e X.env :: (assignEach es X.env).map (·.2) := by rfl) : PGs X (e :: es) (cGs G (js ++ js') (dgCons g gs)) := by
  refine ⟨fun pins s σ H vs us Q I rv h => (pgs_cons h1 h2 hs).run pins s σ H vs us Q I rv ?_⟩
  obtain ⟨H0, r, γ, ρ, n, ds, Q, env, hr, ⟨d, ds', e, q⟩, post⟩ := h
  subst e
  unfold Reps at hr
  obtain ⟨v, vs', rfl, hr1, hr2⟩ := hr
  refine ⟨v, vs', rfl, H0, r, γ, ρ, n, d, _, env, hr1, q, fun σ' ρ' env' q' m' w' => ?_⟩
  exact ⟨H0, r, γ, ρ', n, ds', Q, env', hr2.imp fun a p => P_sub m' p, q', fun σ2 ρ2 e2 q2 m2 w2 => post σ2 ρ2 e2 q2 (fun a m => m' a (m2 a m)) ⟨w2.1.trans w'.1, fun j hj => ⟨(w2.2 j fun z => hj (List.mem_append.mpr (.inr z))).1.trans (w'.2 j fun z => hj (List.mem_append.mpr (.inl z))).1, (w2.2 j fun z => hj (List.mem_append.mpr (.inr z))).2.trans (w'.2 j fun z => hj (List.mem_append.mpr (.inl z))).2⟩⟩⟩
/-- (a, b, ..) = a tuple -/
def dgTup (m : Nat) (gs : DTGs) : DTG := fun n d ρ Q => ∃ ds, d = .tup ds ∧ ds.length = m ∧ gs n ds ρ Q
theorem pgd_tup {k m : Nat} (hc : X.calm = true) (h : PGs X es (cGs G js gs)) (hn : (assignEach es X.env).length = m := by rfl) (hst : (assignEach es X.env).findIdx? (·.1) = none := by rfl) : PG X (.Tuple es k pos) (cG G js (dgTup m gs)) := by
  refine ⟨fun pins s σ H v u Q I rv hh => (pg_tup (pos := pos) (k := k) hc h hn hst).run pins s σ H v u Q I rv ?_⟩
  obtain ⟨H0, r, γ, ρ, n, d, Q, env, hr, ⟨ds, e, hl, q⟩, post⟩ := hh
  subst e
  obtain ⟨a, xs, rfl, h1, h2⟩ := rep_tup hr
  exact ⟨a, xs, rfl, SqT.of h1, by rw [h2.length]; exact hl, H0, r, γ, ρ, n, ds, Q, env, h2, q, post⟩
/-! ### assignments -/
def dAsg (te : DTE) (g : DTG) : DTS := fun XX DD ρ => te XX ρ fun k d => ∃ n, stn k d = some n ∧ g n d ρ DD.nx
theorem cS_asg {D : Ends} (h : cS G E (dAsg te g) D σ H) : tAsg (cE G E te) (cG G js g) D σ H := by
  obtain ⟨H0, r, γ, ρ, XX, DD, env, q, hx, l⟩ := h
  refine cE_at (Now.start env) q hx fun v k d H1 ⟨n, hn, q1⟩ e1 N1 r1 => ?_
  exact ⟨H0, r, γ, ρ, n, d, DD.nx, N1.now, (N1.cxt.stn hn r1).imp fun a p => nk_sub p, q1, fun σ' ρ' env' q' m' w' => l.nx σ' H1 ρ' env' q'⟩
theorem psd_asg (he : PE X e (cE G E te)) (hg : PG X tg (cG G js g)) (hs : swapsWithSole [tg] e pos.line X.env = pure false := by rfl) (hw : swappedStores [tg] e X.env = pure none := by rfl)
    (h1 : (assignEach [tg] X.env).map (·.2) = [assign tg X.env] := by rfl) : PS X (.Assign [tg] e pos) (cS G E (dAsg te g)) := ps_weak (ps_asg he hg hs hw h1) fun _ _ _ h => cS_asg h
theorem psd_set {pos' : Pos} (hN : X.N.Nodup) (hi : X.N[i]? = some x) (hx : Loc X.env.scope x) (he : PE X e (cE G E te)) (hs : swapsWith e (some (.Name x pos')) pos.line X.env = pure false := by rfl) (hf : X.fn x = true ∨ X.env.scope.names.lookup x = some .local := by first | exact .inl rfl | exact .inr rfl | assumption) :
    PS X (.Assign [.Name x pos'] e pos) (cS G E (dAsg te (dgName i))) := ps_weak (ps_set hN hi hx he hs hf) fun D σ H h => by
  obtain ⟨H0, r, γ, ρ, XX, DD, env, q, hx, l⟩ := h
  refine cE_at (Now.start env) q hx fun v k d H1 ⟨n, hn, q1⟩ e1 N1 r1 => ?_
  exact l.nx _ H1 _ (N1.now.setv ((N1.cxt.stn hn r1).imp fun a p => nk_sub p)) q1
/-- x = a new list, owned by x -/
def dAsgO (i : Nat) (te : DTE) : DTS := fun XX DD ρ => te XX ρ fun k d => k = .fr ∧ ∃ ds, d = .lst ds ∧ DD.nx (ρ.set i (.own true ds))
theorem psd_setO {pos' : Pos} (hN : X.N.Nodup) (hi : X.N[i]? = some x) (hx : Loc X.env.scope x) (he : PE X e (cE G E te)) (hs : swapsWith e (some (.Name x pos')) pos.line X.env = pure false := by rfl) (hf : X.fn x = true ∨ X.env.scope.names.lookup x = some .local := by first | exact .inl rfl | exact .inr rfl | assumption) :
    PS X (.Assign [.Name x pos'] e pos) (cS G E (dAsgO i te)) := ps_weak (ps_set hN hi hx he hs hf) fun D σ H h => by
  obtain ⟨H0, r, γ, ρ, XX, DD, env, q, hx, l⟩ := h
  refine cE_at (Now.start env) q hx fun v k d H1 ⟨hk, ds, hd, q1⟩ e1 N1 r1 => ?_
  subst hk hd
  obtain ⟨p, xs, rfl, hp, h1, h2⟩ := rep_lst r1
  exact l.nx _ H1 _ (N1.env.seto (n := true) N1.ex N1.row hp h1 (h2.imp fun a q => N1.cxt.fr_nw q)) q1
/-! ### what a name owns is changed -/
theorem own_at (env : EnvOk G H0 r γ H σ ρ) {n : Bool} {ds : List D} (h1 : ρ[i]? = some (.own n ds)) : ∃ p xs, σ[i]? = some (some (.ref p)) ∧ H0 p = none ∧ H p = some (.lst xs) ∧ Reps G r ((nk n).P H0 r (Mo γ σ ρ) H) H ds xs := by
  have il := (List.getElem?_eq_some_iff.mp h1).1
  obtain ⟨u, hu⟩ : ∃ u, σ[i]? = some u := ⟨_, List.getElem?_eq_getElem (by rw [env.len]; exact il)⟩
  obtain ⟨p, xs, rfl, hp0, hp, hc⟩ := env.sl i _ u h1 hu
  exact ⟨p, xs, hu, hp0, hp, hc⟩
theorem nk_and {n m : Bool} {a : Addr} (h : (nk n).P H0 r M H a) : (nk (n && m)).P H0 r M H' a := by
  cases n <;> cases m <;> first | exact h | exact h.2
theorem nk_and' {n m : Bool} {a : Addr} (h : (nk m).P H0 r M H a) : (nk (n && m)).P H0 r M H' a := by
  cases n <;> cases m <;> first | exact h | exact h.2
/-- x.append(e) -/
def dApp (i : Nat) (te : DTE) : DTS := fun XX DD ρ => ∃ n ds, ρ[i]? = some (.own n ds) ∧ ds.length < 100000 ∧ te XX ρ fun k d => ∃ m, stn k d = some m ∧ DD.nx (ρ.set i (.own (n && m) (ds ++ [d])))
variable {o : Expr} {apos cpos p1 : Pos} {nm : Str}
theorem psd_app (hv : PE X (.Name x p1) (tVar i)) (he : PE X e (cE G E te)) (hbase : attributeBase (.Name x p1) "append" X.env (eval (.Name x p1) X.env) = eval (.Name x p1) X.env := by rfl)
    (hfew : ((backTo cpos (starEach (e :: []) X.env)).all (fun x => !x.1) && (backToKw cpos (keywordEach [] X.env)).all (fun x => x.1.isSome)
      && decide ((e :: []).length + ([] : List Keyword).length + (if ([] : List Keyword).isEmpty then 0 else 1) < 30)) = true := by rfl)
    (hline : (apos.endLine == cpos.line) = true := by rfl) (hs : starEach (e :: []) X.env = (false, eval e X.env) :: starEach [] X.env := by rfl) (hplain : (backTo cpos (starEach [] X.env)).any (·.1) = false := by rfl)
    (hs2 : swapsWith (.Call (.Attribute (.Name x p1) "append" apos) [e] [] cpos) none pos.line X.env = pure false := by rfl) :
    PS X (.Expr (.Call (.Attribute (.Name x p1) "append" apos) [e] [] cpos) pos) (cS G E (dApp i te)) :=
  ps_weak (ps_expr (pe_bm PySem.F.plainAttrs_list PySem.F.slot_list_append PySem.F.type_list_append mt_append hv (pa_cons he pa_nil hs) hbase hfew hline hs hplain) hs2) fun D σ H h => by
  obtain ⟨H0, r, γ, ρ, XX, DD, env, ⟨n, ds, h1, hl, q⟩, hx, l⟩ := h
  obtain ⟨p, xs, hu, hp0, hp, hc⟩ := own_at env h1
  refine ⟨_, hu, .inl ⟨rfl, _, SqL.of hp⟩, ?_⟩
  refine cE_at (Now.start env) q hx fun v k d H1 ⟨m, hm, q1⟩ e1 N1 r1 => ?_
  have c1 := N1.cxt
  have hp1 : H1 p = some (.lst xs) := e1.keep _ _ (c1.rne hp0) hp
  refine ⟨p, xs, v, rfl, rfl, hp1, sz_lt (by rw [hc.length]; exact hl), l.nx _ _ _ (N1.now.wr h1 hu ?_) q1⟩
  refine ((Reps.mono env.row e1 (fun a q => ⟨nk_ne c1 q, nk_and q⟩) hc).append (.one ((c1.stn hm r1).imp fun a q => nk_and' q)))
/-- x[j] = e -/
def dSub (i : Nat) (te tj : DTE) : DTS := fun XX DD ρ => te XX ρ fun k d => ∃ n ds, ρ[i]? = some (.own n ds) ∧ tj XX ρ fun _ dj => ∃ j, dj = .int j ∧ ∃ m j', stn k d = some m ∧ ixN ds.length j = some j' ∧ DD.nx (ρ.set i (.own (n && m) (ds.set j' d)))
variable {tj : DTE} {ej : Expr}
theorem psd_sub {tpos : Pos} (hv : PE X (.Name x p1) (tVar i)) (he : PE X e (cE G E te)) (hj : PE X ej (cE G E tj))
    (ha : ∀ v, assign (.Subscript (.Name x p1) ej tpos) X.env v = (do
      let ov ← holding [v] (eval (.Name x p1) X.env)
      let iv ← holding [v, ov] (eval ej X.env)
      standAt tpos
      holding [v, ov, iv] (setItem ov iv v)
      release [v, ov, iv] []) := by intro _; rfl)
    (hs : swapsWithSole [.Subscript (.Name x p1) ej tpos] e pos.line X.env = pure false := by rfl) (hw : swappedStores [.Subscript (.Name x p1) ej tpos] e X.env = pure none := by rfl)
    (h1 : (assignEach [.Subscript (.Name x p1) ej tpos] X.env).map (·.2) = [assign (.Subscript (.Name x p1) ej tpos) X.env] := by rfl) :
    PS X (.Assign [.Subscript (.Name x p1) ej tpos] e pos) (cS G E (dSub i te tj)) := ps_weak (ps_asg he (pg_sub hv hj set_list ha) hs hw h1) fun D σ H h => by
  obtain ⟨H0, r, γ, ρ, XX, DD, env, q, hx, l⟩ := h
  refine cE_at (Now.start env) q hx fun v k d H1 ⟨n, ds, h1, q1⟩ e1 N1 r1 => ?_
  obtain ⟨p, xs, hu, hp0, hp, hc⟩ := own_at env h1
  have c1 := N1.cxt
  refine ⟨_, hu, ?_⟩
  refine cE_at N1 q1 hx fun jv k2 dj H2 ⟨j, hj, m, j', hm, hix, q2⟩ e2 N2 r2 => ?_
  subst hj
  have c2 := N2.cxt
  have hp2 : H2 p = some (.lst xs) := e2.keep _ _ (c1.rne hp0) (e1.keep _ _ (c1.rne hp0) hp)
  refine ⟨p, xs, j, j', rfl, rep_i r2, hp2, by rw [hc.length]; exact hix, l.nx _ _ _ (N2.now.wr h1 hu ?_) q2⟩
  exact Reps.set j' (Reps.mono env.row N2.ex (fun a q => ⟨nk_ne c1 q, nk_and q⟩) hc) ((c2.stn hm (c1.pers e2 r1)).imp fun a q => nk_and' q)
/-! ### slots may be forgotten -/
inductive Fgt : Rho → Rho → Prop where
  | nil : Fgt [] []
  | keep {s : Slot} {ρ ρ' : Rho} : Fgt ρ ρ' → Fgt (s :: ρ) (s :: ρ')
  | drop {s : Slot} {ρ ρ' : Rho} : Fgt ρ ρ' → Fgt (s :: ρ) (.e :: ρ')
theorem Fgt.refl : ∀ ρ : Rho, Fgt ρ ρ
  | [] => .nil
  | _ :: ρ => .keep (Fgt.refl ρ)
theorem Fgt.get : ∀ {ρ ρ' : Rho} {i : Nat} {s : Slot}, Fgt ρ ρ' → ρ'[i]? = some s → s = .e ∨ ρ[i]? = some s
  | _, _, _, _, .nil, h => by simp at h
  | _, _, 0, s, .keep f, h => .inr h
  | _, _, 0, s, .drop f, h => .inl (by simpa using h.symm)
  | _, _, i + 1, s, .keep f, h => Fgt.get (i := i) f (by simpa using h)
  | _, _, i + 1, s, .drop f, h => Fgt.get (i := i) f (by simpa using h)
theorem Fgt.length : ∀ {ρ ρ' : Rho}, Fgt ρ ρ' → ρ.length = ρ'.length
  | _, _, .nil => rfl
  | _, _, .keep f => by rw [List.length_cons, List.length_cons, Fgt.length f]
  | _, _, .drop f => by rw [List.length_cons, List.length_cons, Fgt.length f]
theorem EnvOk.fgt {ρ' : Rho} (E : EnvOk G H0 r γ H σ ρ) (f : Fgt ρ ρ') : EnvOk G H0 r γ H σ ρ' := by
  have hm : ∀ a, Mo γ σ ρ' a → Mo γ σ ρ a := fun a m => by
    rcases m with ⟨i, s, u, h1, h2, h3⟩ | m
    · rcases f.get h1 with e | e
      · subst e; exact h3.elim
      · exact .inl ⟨i, s, u, e, h2, h3⟩
    · exact .inr m
  refine ⟨E.len.trans f.length, E.ext, E.rt, E.row, fun i s u h1 h2 => ?_, fun i j s t u w a h1 h2 h3 h4 h5 h6 => ?_, fun i s u a h1 h2 h3 => ?_, fun g hg => (E.gh g hg).sub hm⟩
  · rcases f.get h1 with e | e
    · subst e; trivial
    · exact (E.sl i s u e h2).sub hm
  · rcases f.get h1 with e | e
    · subst e; exact h5.elim
    · rcases f.get h2 with e' | e'
      · subst e'; exact h6.elim
      · exact E.ap i j s t u w a e e' h3 h4 h5 h6
  · rcases f.get h1 with e | e
    · subst e; exact h3.elim
    · exact E.ag i s u a e h2 h3
/-- .. ahead of what follows -/
def fg (I : Rho → Prop) : Rho → Prop := fun ρ => ∃ ρ', Fgt ρ ρ' ∧ I ρ'
/-! ### while -/
def dWhile (tc : DTT) (t : DTS) : DTS := fun XX DD ρ => ∃ I : Nat → Rho → Prop, (∃ m, I m ρ) ∧ ∀ m ρ', I m ρ' → tc XX ρ' fun b =>
  if b = true then t XX { DD with nx := fg fun ρ2 => ∃ m', m' < m ∧ I m' ρ2, ct := fg fun ρ2 => ∃ m', m' < m ∧ I m' ρ2, bk := DD.nx } ρ' else DD.nx ρ'
theorem psd_while (hp : PassesOwn (model X.prog X.w) X.A X.env X.xe) (hc : PT X c (cT G E tc)) (hb : PSs X body (cS G E t)) : PS X (.While c body [] pos) (cS G E (dWhile tc t)) := ps_weak (ps_while hp hc hb) fun D σ H h => by
  obtain ⟨H0, r, γ, ρ, XX, DD, env, ⟨I, ⟨m, hm⟩, hs⟩, hx, l⟩ := h
  refine ⟨fun m σ' H' => ∃ ρ', EnvOk G H0 r γ H' σ' ρ' ∧ I m ρ', ⟨m, ρ, env, hm⟩, fun m σ' H' ⟨ρ', env', hI⟩ => ?_⟩
  refine cT_at (Now.start env') (hs m ρ' hI) hx fun b H1 q1 e1 N1 => ?_
  cases b with
  | true =>
    rw [if_pos rfl] at q1 ⊢
    refine ⟨fun σ2 H2 => ∃ ρ2, EnvOk G H0 r γ H2 σ2 ρ2 ∧ ∃ m', m' < m ∧ I m' ρ2, fun σ2 H2 ⟨ρ2, env2, m', h1, h2⟩ => ⟨m', h1, ρ2, env2, h2⟩, ?_⟩
    exact cS_at N1.now q1 hx ⟨fun σ2 H2 ρ2 env2 ⟨ρ3, f, q⟩ => ⟨ρ3, env2.fgt f, q⟩, fun σ2 H2 ρ2 env2 q => l.nx σ2 H2 ρ2 env2 q, fun σ2 H2 ρ2 env2 ⟨ρ3, f, q⟩ => ⟨ρ3, env2.fgt f, q⟩, l.rt⟩
  | false =>
    rw [if_neg Bool.false_ne_true] at q1 ⊢
    exact l.nx _ _ _ N1.now q1
/-! ### what is walked -/
abbrev DTI := (Exn → Prop) → Rho → (Kd → List D → Prop) → Prop
def WalkD (G : Gp) (r : Option Addr) (J : It) (gs : List D) (vs : List V) (ds : List D) : Prop :=
  ∀ (P : Addr → Prop) (H : Hp), (∀ a, P a → some a ≠ r) → RowOk G.K r H → Reps G r P H gs vs → ∀ i : Nat,
    (∀ d, ds[i]? = some d → J.go i H ∧ ∀ x H', J.yld i H x H' → SameR r H H' ∧ RowOk G.K r H' ∧ Rep G r P H' d x) ∧ (ds.length ≤ i → J.stop i H)
def cI (G : Gp) (E : XK) (t : DTI) : TI := fun σ H R => ∃ H0 r γ ρ XX Q, EnvOk G H0 r γ H σ ρ ∧ t XX ρ Q ∧ XOk G E XX r H0 ∧
  ∀ J k gs vs ds H', Q k ds → SameR r H H' → RowOk G.K r H' → Reps G r (k.P H0 r (Mo γ σ ρ) H) H' gs vs → WalkD G r J gs vs ds → R J H'
def itD : D → Option (List D)
  | .lst ds => some ds
  | .tup ds => some ds
  | _ => none
def diSeq (te : DTE) : DTI := fun XX ρ Q => te XX ρ fun k d => ∃ ds, itD d = some ds ∧ Q k ds
theorem pid_or {l : Expr} {w w' : TI} (h : PI X tg l w) (h' : PI X tg l w') : PI X tg l (fun σ H R => w σ H R ∨ w' σ H R) := ⟨fun pins s σ H R I q => q.elim (h.run pins s σ H R I) (h'.run pins s σ H R I)⟩
theorem walk_lst {a : Addr} {ds : List D} : WalkD G r (Itl K a) [.lst ds] [.ref a] ds := fun P H hP hr h i => by
  obtain ⟨v, e, h⟩ := reps1 h
  cases e
  obtain ⟨b, xs, e, _, h1, h2⟩ := rep_lst h
  cases e
  refine ⟨fun d hd => ?_, fun hi => ⟨xs, SqL.of h1, by rw [h2.length]; exact hi⟩⟩
  obtain ⟨x, hx, rx⟩ := h2.get hd
  refine ⟨⟨xs, x, SqL.of h1, hx⟩, fun y H' ⟨e, f⟩ => ?_⟩
  subst e
  have z := f xs (SqL.of h1)
  rw [hx] at z
  cases z
  exact ⟨.refl, hr, rx⟩
theorem walk_tupD {a : Addr} {ds : List D} : WalkD G r (Itt K a) [.tup ds] [.ref a] ds := fun P H hP hr h i => by
  obtain ⟨v, e, h⟩ := reps1 h
  cases e
  obtain ⟨b, xs, e, h1, h2⟩ := rep_tup h
  cases e
  refine ⟨fun d hd => ?_, fun hi => ⟨xs, SqT.of h1, by rw [h2.length]; exact hi⟩⟩
  obtain ⟨x, hx, rx⟩ := h2.get hd
  refine ⟨⟨xs, x, SqT.of h1, hx⟩, fun y H' ⟨e, f⟩ => ?_⟩
  subst e
  have z := f xs (SqT.of h1)
  rw [hx] at z
  cases z
  exact ⟨.refl, hr, rx⟩
end
end HD

set_option Elab.async false
set_option linter.all false
set_option maxRecDepth 100000
namespace HD
open PySem PySem.Spec PyProof.Rows L2
section
variable {G : Gp} {E : XK} {H0 H H' Hs : Hp} {r : Option Addr} {M P : Addr → Prop} {K : PySem.W.Frag} {X : Cx} {σ : L2.St} {ρ : Rho} {γ : List Gh} {XX : Exn → Prop}
variable {st : Stmt} {rest body : List Stmt} {t u : DTS} {e e2 c tg iter : Expr} {pos p tpos : Pos} {te da db : DTE} {tc tt : DTT} {es elts : List Expr} {js js' : List Nat} {g : DTG} {x : Str} {i kk : Nat}
def sgD (c : Nat) : D := .str ⟨#[c]⟩
def seqD : D → Option (List D)
  | .lst ds => some ds
  | .tup ds => some ds
  | .str s => some (s.cps.toList.map sgD)
  | _ => none
def diSq (te : DTE) : DTI := fun XX ρ Q => te XX ρ fun k d => ∃ ds, seqD d = some ds ∧ Q k ds
theorem walk_strD {s : Str} : WalkD G r (Its s) [] [] (s.cps.toList.map sgD) := fun P H hP hr h i => by
  refine ⟨fun d hd => ?_, fun hi => ?_⟩
  · rw [List.getElem?_map] at hd
    cases q : s.cps.toList[i]? with
    | none => rw [q] at hd; cases hd
    | some c =>
      rw [q] at hd
      cases hd
      have hlt := (List.getElem?_eq_some_iff.mp q).1
      refine ⟨show i < s.cps.size by simpa using hlt, fun y H' ⟨e, c', hc, f⟩ => ?_⟩
      subst e
      rw [Array.getElem?_toList] at q
      rw [q] at hc
      cases hc
      subst f
      exact ⟨.refl, hr, rep_str⟩
  · rw [List.length_map] at hi
    show s.cps.size ≤ i
    simpa using hi
theorem pid_sq (he : PE X e (cE G E te)) : PI X tg e (cI G E (diSq te)) := by
  refine ⟨fun pins s σ H R I h => ?_⟩
  obtain ⟨H0, r, γ, ρ, XX, Q, env, q, hx, post⟩ := h
  have h' : cE G E te σ H (fun v H1 => ∃ d k ds, seqD d = some ds ∧ Q k ds ∧ SameR r H H1 ∧ RowOk G.K r H1 ∧ Rep G r (k.P H0 r (Mo γ σ ρ) H) H1 d v) :=
    cE_at (Now.start env) q hx fun v k d H1 ⟨ds, h1, h2⟩ e1 N1 r1 => ⟨d, k, ds, h1, h2, e1, N1.row, r1⟩
  refine thn (he.run pins s σ H _ I h') fun v s1 ⟨x, H1, I1, rv, d, k, ds, h1, h2, e1, hr, rd⟩ => ?_
  cases d with
  | lst ds' =>
    cases h1
    obtain ⟨a, xs, rfl, _, h3, h4⟩ := rep_lst rd
    cases rv
    obtain ⟨its, rv, p, hz⟩ := I1.list (SqL.of h3)
    refine wpAny_pyIter_list p.isList ?_
    refine ⟨s1.heap.objs.size, [s1.heap.objs.size], _, _, H1, rfl, I1.kept (t' := s1.toks) fun b o e => Heap.get?_push_of_some _ e, turn_list a _, ⟨_, Heap.get?_push_size _ rfl, rfl, rfl⟩, fun b hb => ?_, post _ _ _ _ _ _ h2 e1 hr (.one rd) walk_lst⟩
    have e : b = s1.heap.objs.size := by simpa using hb
    subst e
    exact I1.fpOk (Nat.le_refl _) (I1.hok.fresh (Nat.le_refl _))
  | tup ds' =>
    cases h1
    obtain ⟨a, xs, rfl, h3, h4⟩ := rep_tup rd
    cases rv
    obtain ⟨its, rv, p, hz⟩ := I1.tuple (SqT.of h3)
    refine wpAny_pyIter_tuple (show s1.heap.IsTuple a its.toArray from p) ?_
    refine ⟨s1.heap.objs.size, [s1.heap.objs.size], _, _, H1, rfl, I1.kept (t' := s1.toks) fun b o e => Heap.get?_push_of_some _ e, turn_tuple a _, ⟨_, Heap.get?_push_size _ rfl, rfl, rfl⟩, fun b hb => ?_, post _ _ _ _ _ _ h2 e1 hr (.one rd) walk_tupD⟩
    have e : b = s1.heap.objs.size := by simpa using hb
    subst e
    exact I1.fpOk (Nat.le_refl _) (I1.hok.fresh (Nat.le_refl _))
  | str z =>
    cases h1
    cases rep_s rd
    obtain ⟨t, rfl⟩ := rv
    have q1 := post (Its z) k [] [] _ H1 h2 e1 hr .nil walk_strD
    cases ha : z.cps.all (· < 128)
    · exact wpAny_pyIter_wide ha (pi_one (tk := s1.toks) I1 _ (turn_str _ z t "str_iterator" (.inr rfl)) ⟨_, Heap.get?_push_size _ rfl, rfl, rfl⟩ q1)
    · exact wpAny_pyIter_ascii ha (pi_one (tk := s1.toks) I1 _ (turn_str _ z t "str_ascii_iterator" (.inl rfl)) ⟨_, Heap.get?_push_size _ rfl, rfl, rfl⟩ q1)
  | non => cases h1
  | bl _ => cases h1
  | int _ => cases h1
  | obj _ => cases h1
  | row => cases h1
  | dic _ _ _ => cases h1
  | fls _ => cases h1
/-! ### ranges -/
def rgD (lo : Int) (n : Nat) : List D := (List.range n).map fun (i : Nat) => D.int (lo + (i : Int))
theorem rgD_get {lo : Int} {n i : Nat} {d : D} (h : (rgD lo n)[i]? = some d) : i < n ∧ d = .int (lo + (i : Int)) := by
  unfold rgD at h
  rw [List.getElem?_map] at h
  by_cases hi : i < n
  · rw [List.getElem?_range hi] at h
    cases h
    exact ⟨hi, rfl⟩
  · rw [List.getElem?_eq_none (by rw [List.length_range]; omega)] at h
    cases h
theorem rgD_len {lo : Int} {n : Nat} : (rgD lo n).length = n := by unfold rgD; rw [List.length_map, List.length_range]
theorem walk_rg {lo : Int} {n : Nat} : WalkD G r (Itr lo n) [] [] (rgD lo n) := fun P H hP hr h i => by
  refine ⟨fun d hd => ?_, fun hi => by rw [rgD_len] at hi; exact hi⟩
  obtain ⟨h1, rfl⟩ := rgD_get hd
  refine ⟨h1, fun y H' ⟨e, f⟩ => ?_⟩
  subst e f
  exact ⟨.refl, hr, rep_int⟩
def diRg1 (t : DTA) : DTI := fun XX ρ Q => t XX ρ fun _ ds => ∃ j, ds = [.int j] ∧ -(2 ^ 62) ≤ j ∧ j < 2 ^ 62 ∧ Q .fr (rgD 0 j.toNat)
def diRg2 (t : DTA) : DTI := fun XX ρ Q => t XX ρ fun _ ds => ∃ i j, ds = [.int i, .int j] ∧ (-(2 ^ 62) ≤ i ∧ i < 2 ^ 62 ∧ -(2 ^ 62) ≤ j ∧ j < 2 ^ 62) ∧ Q .fr (rgD i (j - i).toNat)
theorem pi_weak {w w' : TI} (h : PI X tg iter w) (f : ∀ σ H R, w' σ H R → w σ H R) : PI X tg iter w' := ⟨fun pins s σ H R I q => h.run pins s σ H R I (f _ _ _ q)⟩
variable {ta : DTA} {a b : Expr}
theorem pid_range1 (hg : Gl X "range") (hm : X.mg "range" = none) (ha : PA X [a] (cA G E ta)) (hs : starEach [a] X.env = [(false, eval a X.env)] := by rfl) : PI X tg (.Call (.Name "range" p) [a] [] pos) (cI G E (diRg1 ta)) :=
  pi_weak (pi_range1 hg hm ha hs) fun σ H R h => by
  obtain ⟨H0, r, γ, ρ, XX, Q, env, q, hx, post⟩ := h
  refine cA_at (Now.start env) q hx fun vs k ds H1 ⟨j, e, h1, h2, q1⟩ e1 N1 r1 => ?_
  subst e
  obtain ⟨v, rfl, h⟩ := reps1 r1
  exact ⟨j, by rw [rep_i h], h1, h2, post _ .fr [] [] _ H1 q1 e1 N1.row .nil walk_rg⟩
theorem pid_range2 (hg : Gl X "range") (hm : X.mg "range" = none) (ha : PA X [a, b] (cA G E ta)) (hs : starEach [a, b] X.env = [(false, eval a X.env), (false, eval b X.env)] := by rfl) (hs2 : starEach [b] X.env = [(false, eval b X.env)] := by rfl) : PI X tg (.Call (.Name "range" p) [a, b] [] pos) (cI G E (diRg2 ta)) :=
  pi_weak (pi_range2 hg hm ha hs hs2) fun σ H R h => by
  obtain ⟨H0, r, γ, ρ, XX, Q, env, q, hx, post⟩ := h
  refine cA_at (Now.start env) q hx fun vs k ds H1 ⟨i, j, e, h1, q1⟩ e1 N1 r1 => ?_
  subst e
  obtain ⟨v, w, rfl, h, h'⟩ := reps2 r1
  exact ⟨i, j, by rw [rep_i h, rep_i h'], h1, post _ .fr [] [] _ H1 q1 e1 N1.row .nil walk_rg⟩
/-! ### zip of two lists -/
def zpD (as bs : List D) : List D := (as.zip bs).map fun q => D.tup [q.1, q.2]
def diZip (t : DTA) : DTI := fun XX ρ Q => t XX ρ fun k ds => ∃ as bs, ds = [.lst as, .lst bs] ∧ Q k (zpD as bs)
theorem walk_zp {a b : Addr} {as bs : List D} : WalkD G r (Itz K a b) [.lst as, .lst bs] [.ref a, .ref b] (zpD as bs) := fun P H hP hr h i => by
  obtain ⟨v, w, e, h, h'⟩ := reps2 h
  cases e
  obtain ⟨a', xs, e, _, h1, h2⟩ := rep_lst h
  cases e
  obtain ⟨b', ys, e, _, h3, h4⟩ := rep_lst h'
  cases e
  refine ⟨fun d hd => ?_, fun hi => ?_⟩
  · unfold zpD at hd
    rw [List.getElem?_map] at hd
    cases q : (as.zip bs)[i]? with
    | none => rw [q] at hd; cases hd
    | some z =>
      rw [q] at hd
      cases hd
      rw [List.getElem?_zip_eq_some] at q
      obtain ⟨x, hx, rx⟩ := h2.get q.1
      obtain ⟨y, hy, ry⟩ := h4.get q.2
      refine ⟨⟨xs, ys, x, y, SqL.of h1, SqL.of h3, hx, hy⟩, fun v H' ⟨T, x', y', e1, e2, e3, f1, f2⟩ => ?_⟩
      have z1 := f1 xs (SqL.of h1)
      have z2 := f2 ys (SqL.of h3)
      rw [hx] at z1
      rw [hy] at z2
      cases z1; cases z2
      subst e1 e3
      have sm : SameR r H (upd H T (.tup [x, y])) := .new e2
      refine ⟨sm, hr.new e2, ?_⟩
      unfold Rep
      exact ⟨T, [x, y], rfl, upd_same, .cons (Rep.mono hr sm (fun a p => ⟨hP a p, p⟩) rx) (.one (Rep.mono hr sm (fun a p => ⟨hP a p, p⟩) ry))⟩
  · unfold zpD at hi
    rw [List.length_map, List.length_zip] at hi
    refine ⟨xs, ys, SqL.of h1, SqL.of h3, ?_⟩
    rw [h2.length, h4.length]
    omega
theorem pid_zip (hg : Gl X "zip") (hm : X.mg "zip" = none) (ha : PA X [e, e2] (cA G E ta))
    (hs : starEach [e, e2] X.env = (false, eval e X.env) :: starEach [e2] X.env := by rfl) (hpl : (backTo pos (starEach [e2] X.env)).any (·.1) = false := by rfl) :
    PI X (.Tuple elts kk tpos) (.Call (.Name "zip" p) [e, e2] [] pos) (cI G E (diZip ta)) := pi_weak (pi_zip hg hm ha hs hpl) fun σ H R h => by
  obtain ⟨H0, r, γ, ρ, XX, Q, env, q, hx, post⟩ := h
  refine cA_at (Now.start env) q hx fun vs k ds H1 ⟨as, bs, ed, q1⟩ e1 N1 r1 => ?_
  subst ed
  obtain ⟨v, w, rfl, h, h'⟩ := reps2 r1
  obtain ⟨a', xs, rfl, p1, h1, h2⟩ := rep_lst h
  obtain ⟨b', ys, rfl, p2, h3, h4⟩ := rep_lst h'
  exact ⟨a', b', xs, ys, rfl, SqL.of h1, SqL.of h3, post _ k _ _ _ H1 q1 e1 N1.row r1 walk_zp⟩
/-! ### reversed: of a list, of a range -/
def diRev (t : DTA) : DTI := fun XX ρ Q => t XX ρ fun k ds => ∃ as, ds = [.lst as] ∧ Q k as.reverse
theorem walk_rv {a : Addr} {as : List D} : WalkD G r (Itv K a as.length) [.lst as] [.ref a] as.reverse := fun P H hP hr h i => by
  obtain ⟨v, e, h⟩ := reps1 h
  cases e
  obtain ⟨a', xs, e, _, h1, h2⟩ := rep_lst h
  cases e
  refine ⟨fun d hd => ?_, fun hi => by rw [List.length_reverse] at hi; exact hi⟩
  have hi : i < as.length := by have := (List.getElem?_eq_some_iff.mp hd).1; rw [List.length_reverse] at this; exact this
  rw [List.getElem?_reverse hi] at hd
  obtain ⟨x, hx, rx⟩ := h2.get hd
  refine ⟨⟨hi, xs, x, SqL.of h1, hx⟩, fun y H' ⟨e, f⟩ => ?_⟩
  subst e
  have z := f xs (SqL.of h1)
  rw [hx] at z
  cases z
  exact ⟨.refl, hr, rx⟩
theorem pid_reversed (hg : Gl X "reversed") (hm : X.mg "reversed" = none) (ha : PA X [e] (cA G E ta)) (hs : starEach [e] X.env = [(false, eval e X.env)] := by rfl) : PI X tg (.Call (.Name "reversed" p) [e] [] pos) (cI G E (diRev ta)) :=
  pi_weak (pi_reversed hg hm ha hs) fun σ H R h => by
  obtain ⟨H0, r, γ, ρ, XX, Q, env, q, hx, post⟩ := h
  refine cA_at (Now.start env) q hx fun vs k ds H1 ⟨as, ed, q1⟩ e1 N1 r1 => ?_
  subst ed
  obtain ⟨v, rfl, h⟩ := reps1 r1
  obtain ⟨a', xs, rfl, p1, h1, h2⟩ := rep_lst h
  refine ⟨a', xs, rfl, SqL.of h1, ?_⟩
  rw [h2.length]
  exact post _ k _ _ _ H1 q1 e1 N1.row r1 walk_rv
/-! ### for -/
def kn : Kd → Option Bool
  | .fr => some true
  | .nw => some true
  | .sf => some false
  | .an => none
theorem Cxt.kn (c : Cxt G H0 r M Hs H) {k : Kd} {n : Bool} (h : HD.kn k = some n) {a : Addr} (p : k.P H0 r M Hs a) : (nk n).P H0 r M Hs a := by
  cases k with
  | fr => cases h; exact c.fr_nw p
  | nw => cases h; exact p
  | sf => cases h; exact p
  | an => cases h
def dFor (it : DTI) (g : DTG) (t : DTS) : DTS := fun XX DD ρ => it XX ρ fun k ds => ∃ n, kn k = some n ∧ ∃ I : Nat → Rho → Prop, I 0 ρ ∧
  (∀ i d ρ', ds[i]? = some d → I i ρ' → g n d ρ' fun ρ2 => t XX { DD with nx := fg (I (i + 1)), ct := fg (I (i + 1)), bk := DD.nx } ρ2) ∧ ∀ ρ', I ds.length ρ' → DD.nx ρ'
theorem psd_for {it : DTI} (hp : PassesOwn (model X.prog X.w) X.A X.env X.xe) (hc : X.calm = true) (hi : PI X tg iter (cI G E it)) (hg : PG X tg (cG G js g)) (hb : PSs X body (cS G E t)) (hs : ∀ x, foldedSetIterable iter X.env x = pure x := by intro _; rfl) : PS X (.For tg iter body [] pos) (cS G E (dFor it g t)) :=
  ps_weak (ps_for hp hc hi hg hb hs) fun D σ H h => by
  obtain ⟨H0, r, γ, ρ, XX, DD, env, q, hx, l⟩ := h
  refine ⟨H0, r, γ, ρ, XX, _, env, q, hx, fun J k gs vs ds H1 ⟨n, hn, I, h0, hs, hd⟩ e1 hr1 rg hw => ?_⟩
  have N1 : Now G H0 r γ H H1 σ ρ := ⟨env, e1, hr1⟩
  have c1 := N1.cxt
  have hlen : gs.length = vs.length := rg.length.symm
  have env1 := EnvOk.ghosts N1.now (rg.imp fun a p => nk_sub (c1.kn hn p))
  refine ⟨fun i m σ' H' => m = ds.length - i ∧ i ≤ ds.length ∧ ∃ ρ', EnvOk G H0 r ((gs.zip vs).map (fun p => Gh.v n p.1 p.2) ++ γ) H' σ' ρ' ∧ I i ρ', ⟨ds.length, rfl, Nat.zero_le _, ρ, env1, h0⟩, ?_⟩
  rintro i m σ' H' ⟨rfl, hi, ρ', env', hI⟩
  have c' := env'.cxt
  have W := hw _ H' (fun a p => nk_ne c' p) env'.row (reps_ghosts hlen fun g hg => env'.gh g (List.mem_append.mpr (.inl hg))) i
  by_cases hlt : i < ds.length
  · have hd' : ds[i]? = some ds[i] := List.getElem?_eq_getElem hlt
    obtain ⟨hgo, hy⟩ := W.1 _ hd'
    refine .inr ⟨hgo, fun σ2 H2 => ∃ ρ2, EnvOk G H0 r ((gs.zip vs).map (fun p => Gh.v n p.1 p.2) ++ γ) H2 σ2 ρ2 ∧ I (i + 1) ρ2, fun σ2 H2 ⟨ρ2, env2, h2⟩ => ⟨ds.length - (i + 1), by omega, rfl, hlt, ρ2, env2, h2⟩, fun x H2 hyx => ?_⟩
    obtain ⟨sm, hr2, rx⟩ := hy x H2 hyx
    refine ⟨H0, r, _, ρ', n, ds[i], _, env'.step sm hr2, rx.imp fun a p => nk_sub p, hs i _ ρ' hd' hI, fun σ3 ρ3 env3 q3 _ _ => ?_⟩
    exact cS_at env3 q3 hx ⟨fun σ4 H4 ρ4 env4 ⟨ρ5, f, q4⟩ => ⟨ρ5, env4.fgt f, q4⟩, fun σ4 H4 ρ4 env4 q4 => l.nx _ _ _ env4.unghosts q4, fun σ4 H4 ρ4 env4 ⟨ρ5, f, q4⟩ => ⟨ρ5, env4.fgt f, q4⟩, l.rt⟩
  · have e : i = ds.length := by omega
    subst e
    exact .inl ⟨W.2 (Nat.le_refl _), l.nx _ _ _ env'.unghosts (hd ρ' hI)⟩
/-! ### comprehensions -/
def kle (κ k : Kd) (d : D) : Prop := κ.min k = κ ∨ d.flat = true
theorem Cxt.kle (c : Cxt G H0 r M Hs H) {κ k : Kd} {d : D} {v : V} (h : HD.kle κ k d) (hr : Rep G r (k.P H0 r M Hs) H' d v) : Rep G r (κ.P H0 r M Hs) H' d v := by
  rcases h with h | h
  · refine hr.imp fun a p => ?_
    have q := c.minr (k := κ) p
    rw [h] at q
    exact q
  · exact Rep.flat d v h hr
/-- none of these slots owns -/
def noOwn (ρ : Rho) (vs : List Nat) : Bool := vs.all fun v => match ρ[v]? with
  | some s => !s.isOwn
  | none => true
def dLc (it : DTI) (g : DTG) (tt : DTT) (te : DTE) (vs : List Nat) : DTE := fun XX ρ Q => it XX ρ fun k ds => ds.length ≤ 100000 ∧ noOwn ρ vs = true ∧ ∃ n, kn k = some n ∧ ∃ κ, κ ≠ Kd.an ∧ ∃ I : Nat → List D → Prop, I 0 [] ∧
  (∀ i d acc, ds[i]? = some d → I i acc → g n d (wipeR ρ vs) fun ρ2 => tt XX ρ2 fun b => if b = true then te XX ρ2 fun k' y => kle κ k' y ∧ I (i + 1) (acc ++ [y]) else I (i + 1) acc) ∧ ∀ acc, I ds.length acc → Q κ (.lst acc)
theorem wipe_out' {σ : L2.St} {i : Nat} : ∀ {vs : List Nat}, i ∉ vs → (wipe σ vs)[i]? = σ[i]?
  | [], _ => rfl
  | v :: vs, h => by
    unfold wipe
    rw [List.getElem?_set_ne fun z => h (by rw [z]; exact List.mem_cons_self), wipe_out' fun z => h (List.mem_cons_of_mem _ z)]
theorem wipe_in {σ : L2.St} {i : Nat} : ∀ {vs : List Nat}, i ∈ vs → (wipe σ vs)[i]? = if i < σ.length then some none else none
  | v :: vs, h => by
    unfold wipe
    by_cases e : v = i
    · subst e
      rw [List.getElem?_set, if_pos rfl, wipe_length]
    · rw [List.getElem?_set_ne e]
      exact wipe_in ((List.mem_cons.mp h).resolve_left fun z => e z.symm)
theorem wipeR_out {ρ : Rho} {i : Nat} : ∀ {vs : List Nat}, i ∉ vs → (wipeR ρ vs)[i]? = ρ[i]?
  | [], _ => rfl
  | v :: vs, h => by
    unfold wipeR
    rw [List.getElem?_set_ne fun z => h (by rw [z]; exact List.mem_cons_self), wipeR_out fun z => h (List.mem_cons_of_mem _ z)]
theorem wipe_eq {σ σ' : L2.St} {vs : List Nat} (hl : σ'.length = σ.length) (h : ∀ i, i ∉ vs → σ'[i]? = σ[i]?) : wipe σ' vs = wipe σ vs := by
  apply List.ext_getElem?
  intro i
  by_cases hi : i ∈ vs
  · rw [wipe_in hi, wipe_in hi, hl]
  · rw [wipe_out' hi, wipe_out' hi, h i hi]
theorem wipe_wipe {σ : L2.St} {vs : List Nat} : wipe (wipe σ vs) vs = wipe σ vs := wipe_eq (wipe_length σ vs) fun i hi => wipe_out' hi
theorem cE_lc {it : DTI} {vs : List Nat} {Qv : VK} (hj : ∀ j ∈ js, j ∈ vs) (h : cE G E (dLc it g tt te vs) σ H Qv) : tLc (cI G E it) (cG G js g) (cT G E tt) (cE G E te) vs σ H Qv := by
  obtain ⟨H0, r, γ, ρ, XX, Q, env, q, hx, post⟩ := h
  refine ⟨H0, r, γ, ρ, XX, _, env, q, hx, fun J k gs ws ds H1 ⟨hlen, hno, n, hn, κ, hκ, I, h0, hs, hd⟩ e1 hr1 rg hw => ?_⟩
  have N1 : Now G H0 r γ H H1 σ ρ := ⟨env, e1, hr1⟩
  have c1 := N1.cxt
  have hgl : gs.length = ws.length := rg.length.symm
  intro D hD
  have hDs : H D = none := e1.there D hD
  have hr2 : RowOk G.K r (upd H1 D (.lst [])) := hr1.new hD
  have env1 := (EnvOk.ghosts N1.now (rg.imp fun a p => nk_sub (c1.kn hn p))).hold (.new hD) hr2 hD upd_same (trivial : Mov (.lst []))
  have env2 := env1.wipe vs
  have mem : Gh.own D ∈ Gh.own D :: ((gs.zip ws).map (fun p => Gh.v n p.1 p.2) ++ γ) := List.mem_cons_self
  have MM : ∀ {σ2 ρ2}, (∀ i, i ∉ js → σ2[i]? = (wipe σ vs)[i]? ∧ ρ2[i]? = (wipeR ρ vs)[i]?) → ∀ a, Mo γ σ ρ a → Mo (Gh.own D :: ((gs.zip ws).map (fun p => Gh.v n p.1 p.2) ++ γ)) σ2 ρ2 a := fun {σ2 ρ2} f a m => by
    rcases m with ⟨i, s, u, h1, h2, h3⟩ | m
    · by_cases hi : i ∈ vs
      · have q := List.all_eq_true.mp hno i hi
        rw [h1] at q
        dsimp only at q
        rw [Slot.owns_own h3] at q
        cases q
      · obtain ⟨f1, f2⟩ := f i fun z => hi (hj i z)
        exact .inl ⟨i, s, u, by rw [f2, wipeR_out hi]; exact h1, by rw [f1, wipe_out' hi]; exact h2, h3⟩
    · exact .inr (List.mem_cons_of_mem _ (List.mem_append.mpr (.inr m)))
  refine ⟨fun i m H' => m = ds.length - i ∧ i ≤ ds.length ∧ SameR r H H' ∧ EnvOk G H0 r (Gh.own D :: ((gs.zip ws).map (fun p => Gh.v n p.1 p.2) ++ γ)) H' (wipe σ vs) (wipeR ρ vs) ∧
      ∃ acc xs, H' D = some (.lst xs) ∧ Reps G r (fun a => κ.P H0 r (Mo γ σ ρ) H a ∧ a ≠ D) H' acc xs ∧ I i acc ∧ acc.length ≤ i,
    ⟨ds.length, rfl, Nat.zero_le _, e1.trans (.new hD), env2, [], [], upd_same, .nil, h0, Nat.le_refl _⟩, ?_⟩
  rintro i m H' ⟨rfl, hi, e', env', acc, xs, hDx, hra, hI, hal⟩
  have c' := env'.cxt
  have W := hw _ H' (fun a p => nk_ne c' p) env'.row (reps_ghosts hgl fun g hg => env'.gh g (List.mem_cons_of_mem _ (List.mem_append.mpr (.inl hg)))) i
  have Dr : some D ≠ r := fun z => env.rt D z.symm (env.ext.there D hDs)
  by_cases hlt : i < ds.length
  · have hd' : ds[i]? = some ds[i] := List.getElem?_eq_getElem hlt
    obtain ⟨hgo, hy⟩ := W.1 _ hd'
    refine .inr ⟨hgo, fun H2 => SameR r H H2 ∧ EnvOk G H0 r (Gh.own D :: ((gs.zip ws).map (fun p => Gh.v n p.1 p.2) ++ γ)) H2 (wipe σ vs) (wipeR ρ vs) ∧
      ∃ acc xs, H2 D = some (.lst xs) ∧ Reps G r (fun a => κ.P H0 r (Mo γ σ ρ) H a ∧ a ≠ D) H2 acc xs ∧ I (i + 1) acc ∧ acc.length ≤ i + 1, fun H2 h2 => ⟨ds.length - (i + 1), by omega, rfl, hlt, h2⟩, fun x H2 hyx => ?_⟩
    obtain ⟨sm, hr2, rx⟩ := hy x H2 hyx
    have accP : ∀ {H3 : Hp}, SameR r H' H3 → Reps G r (fun a => κ.P H0 r (Mo γ σ ρ) H a ∧ a ≠ D) H3 acc xs := fun {H3} s3 =>
      Reps.mono env'.row s3 (fun a p => ⟨c1.ne_r p.1, p⟩) hra
    refine ⟨H0, r, _, wipeR ρ vs, n, ds[i], _, env'.step sm hr2, rx.imp fun a p => nk_sub p, hs i _ acc hd' hI, fun σ3 ρ3 env3 q3 m3 f3 => ⟨?_, ?_⟩⟩
    · have q := wipe_eq (σ := wipe σ vs) (σ' := σ3) (vs := vs) (by rw [wipe_length]; exact f3.1.trans (wipe_length σ vs)) fun i hi => (f3.2 i fun z => hi (hj i z)).1
      rw [q, wipe_wipe]
    · refine cT_at (Now.start env3) q3 hx fun b H3 q4 e4 N4 => ?_
      cases b with
      | true =>
        rw [if_pos rfl] at q4 ⊢
        refine cE_at (Now.start N4.now) q4 hx fun y k' dy H4 ⟨hk, hI4⟩ e5 N5 ry => ?_
        have c5 := N5.cxt
        have s4 : SameR r H' H4 := sm.trans (e4.trans e5)
        have hD4 : H4 D = some (.lst xs) := s4.keep _ _ Dr hDx
        have hD3 : H3 D = some (.lst xs) := (sm.trans e4).keep _ _ Dr hDx
        have ry' : Rep G r (fun a => κ.P H0 r (Mo γ σ ρ) H a ∧ a ≠ D) H4 dy y := (c5.kle hk ry).imp fun a p => by
          have hmm := MM f3.2
          cases κ with
          | fr =>
            refine ⟨(e'.trans (sm.trans e4)).there a p, fun z => ?_⟩
            subst z
            have p' : H3 a = none := p
            rw [hD3] at p'; cases p'
          | nw => exact ⟨⟨p.1, fun z => p.2.1 (hmm a z), p.2.2⟩, fun z => p.2.1 (by rw [z]; exact .inr mem)⟩
          | sf => exact ⟨⟨fun z => p.1 (hmm a z), p.2⟩, fun z => p.1 (by rw [z]; exact .inr mem)⟩
          | an => exact absurd rfl hκ
        have hr4 := N5.row
        refine ⟨xs, hD4, sz_lt (by rw [hra.length]; omega), (e'.trans s4).mut hDs, (env'.step s4 hr4).wrHold mem trivial, acc ++ [dy], xs ++ [y], upd_same, ?_, hI4, by rw [List.length_append, List.length_singleton]; omega⟩
        exact Reps.keep (S := fun a => a = D) (fun a z => ⟨.lst xs, by rw [z]; exact hD4, trivial⟩) (fun b u n q => by rw [upd_ne n]; exact q) (fun a q => ⟨q.2, q⟩) _ _ ((accP s4).append (.one ry'))
      | false =>
        rw [if_neg Bool.false_ne_true] at q4 ⊢
        have s3 : SameR r H' H3 := sm.trans e4
        exact ⟨e'.trans s3, env'.step s3 N4.row, acc, xs, s3.keep _ _ Dr hDx, accP s3, q4, by omega⟩
  · have e : i = ds.length := by omega
    subst e
    refine .inl ⟨W.2 (Nat.le_refl _), post _ κ (.lst acc) H' (hd acc hI) e' env'.row ?_⟩
    unfold Rep
    exact ⟨D, xs, rfl, env.cxt.of_fr hDs, hDx, hra.imp fun a p => p.1⟩
variable {elt : Expr} {ifs : List Expr} {scope : Scope} {own : List (Str × Nat)} {it : DTI}
theorem pd_lc (hc : X.calm = true) (hN : X.N.Nodup) (hi : PI X tg iter (cI G E it)) (ok : BlkOk X.N X.env.scope scope own)
    (hg : ∀ (s : Shared) (H : Hp) (C : Addr) (cl : List (Str × Addr)) (fp : List Addr), PG (X.blk s H scope (compEnvC scope cl C X.env) fp) tg (cG G js g)) (ht : ∀ (s : Shared) (H : Hp) (C : Addr) (cl : List (Str × Addr)) (fp : List Addr), PTs (X.blk s H scope (compEnvC scope cl C X.env) fp) ifs (cT G E tt))
    (he : ∀ (s : Shared) (H : Hp) (C : Addr) (cl : List (Str × Addr)) (fp : List Addr), PE (X.blk s H scope (compEnvC scope cl C X.env) fp) elt (cE G E te)) (hj : ∀ j ∈ js, j ∈ own.map (·.2)) (hs : ∀ x, foldedSetIterable iter X.env x = pure x := by intro _; rfl) :
    PE X (.ListComp elt [⟨tg, iter, ifs, 0⟩] scope pos) (cE G E (dLc it g tt te (own.map (·.2)))) := pe_weak (pe_lc hc hN hi ok hg ht he hs) fun _ _ _ h => cE_lc hj h
def dYes : DTT := fun _ _ Q => Q true
theorem ptsd_nil : PTs X [] (cT G E dYes) := ⟨fun pins s σ H Q I h => pts_nil.run pins s σ H Q I (by
  obtain ⟨H0, r, γ, ρ, XX, Q, env, q, hx, post⟩ := h
  exact post true _ q .refl env.row)⟩
theorem ptsd_one {c : Expr} (h : PT X c (cT G E tt)) : PTs X [c] (cT G E tt) := pts_one h
/-- name = [..] on one line -/
theorem psd_setLc {i : Nat} {y : Str} {py spos : Pos} (hc : X.calm = true) (hN : X.N.Nodup) (hy : X.N[i]? = some y) (hyl : X.env.scope.names.lookup y = some .local)
    (hsw : swapsWith (.ListComp elt [⟨tg, iter, ifs, 0⟩] scope pos) (some (.Name y py)) spos.line X.env = pure true) (hi : PI X tg iter (cI G E it)) (ok : BlkOk X.N X.env.scope scope own)
    (hg : ∀ (s : Shared) (H : Hp) (C : Addr) (cl : List (Str × Addr)) (fp : List Addr), PG (X.blk s H scope (compEnvC scope cl C X.env) fp) tg (cG G js g)) (ht : ∀ (s : Shared) (H : Hp) (C : Addr) (cl : List (Str × Addr)) (fp : List Addr), PTs (X.blk s H scope (compEnvC scope cl C X.env) fp) ifs (cT G E tt))
    (he : ∀ (s : Shared) (H : Hp) (C : Addr) (cl : List (Str × Addr)) (fp : List Addr), PE (X.blk s H scope (compEnvC scope cl C X.env) fp) elt (cE G E te)) (hj : ∀ j ∈ js, j ∈ own.map (·.2)) (hs : ∀ x, foldedSetIterable iter X.env x = pure x := by intro _; rfl) :
    PS X (.Assign [.Name y py] (.ListComp elt [⟨tg, iter, ifs, 0⟩] scope pos) spos) (cS G E (dAsg (dLc it g tt te (own.map (·.2))) (dgName i))) := ps_weak (ps_setLc hc hN hy hyl hsw hi ok hg ht he hs) fun D σ H h => by
  obtain ⟨H0, r, γ, ρ, XX, DD, env, q, hx, l⟩ := h
  refine cE_lc hj ⟨H0, r, γ, ρ, XX, _, env, q, hx, fun v k d H1 ⟨n, hn, q1⟩ e1 hr r1 => ?_⟩
  have N1 : Now G H0 r γ H H1 σ ρ := ⟨env, e1, hr⟩
  exact l.nx _ H1 _ (N1.now.setv ((N1.cxt.stn hn r1).imp fun a p => nk_sub p)) q1
theorem psd_setLcO {i : Nat} {y : Str} {py spos : Pos} (hc : X.calm = true) (hN : X.N.Nodup) (hy : X.N[i]? = some y) (hyl : X.env.scope.names.lookup y = some .local)
    (hsw : swapsWith (.ListComp elt [⟨tg, iter, ifs, 0⟩] scope pos) (some (.Name y py)) spos.line X.env = pure true) (hi : PI X tg iter (cI G E it)) (ok : BlkOk X.N X.env.scope scope own)
    (hg : ∀ (s : Shared) (H : Hp) (C : Addr) (cl : List (Str × Addr)) (fp : List Addr), PG (X.blk s H scope (compEnvC scope cl C X.env) fp) tg (cG G js g)) (ht : ∀ (s : Shared) (H : Hp) (C : Addr) (cl : List (Str × Addr)) (fp : List Addr), PTs (X.blk s H scope (compEnvC scope cl C X.env) fp) ifs (cT G E tt))
    (he : ∀ (s : Shared) (H : Hp) (C : Addr) (cl : List (Str × Addr)) (fp : List Addr), PE (X.blk s H scope (compEnvC scope cl C X.env) fp) elt (cE G E te)) (hj : ∀ j ∈ js, j ∈ own.map (·.2)) (hs : ∀ x, foldedSetIterable iter X.env x = pure x := by intro _; rfl) :
    PS X (.Assign [.Name y py] (.ListComp elt [⟨tg, iter, ifs, 0⟩] scope pos) spos) (cS G E (dAsgO i (dLc it g tt te (own.map (·.2))))) := ps_weak (ps_setLc hc hN hy hyl hsw hi ok hg ht he hs) fun D σ H h => by
  obtain ⟨H0, r, γ, ρ, XX, DD, env, q, hx, l⟩ := h
  refine cE_lc hj ⟨H0, r, γ, ρ, XX, _, env, q, hx, fun v k d H1 ⟨hk, ds, hd, q1⟩ e1 hr r1 => ?_⟩
  have N1 : Now G H0 r γ H H1 σ ρ := ⟨env, e1, hr⟩
  subst hk hd
  obtain ⟨p, xs, rfl, hp, h1, h2⟩ := rep_lst r1
  exact l.nx _ H1 _ (N1.env.seto (n := true) N1.ex N1.row hp h1 (h2.imp fun a q => N1.cxt.fr_nw q)) q1
end
end HD

set_option Elab.async false
set_option linter.all false
set_option maxRecDepth 100000
namespace HD
open PySem PySem.Spec PyProof.Rows L2
/-! ### defs -/
/-- what a def is worth: what may be raised, the arguments, what is wanted of the answer -/
abbrev DSp := (Exn → Prop) → List D → (D → Prop) → Prop
def spD (G : Gp) (fn : DSp) : Sp := fun vs H Qv E => ∃ r ds XX QQ, RowOk G.K r H ∧ Reps G r (fun a => some a ≠ r) H ds vs ∧ fn XX ds QQ ∧ XOk G E XX r H ∧
  ∀ v d H', QQ d → SameR r H H' → RowOk G.K r H' → Rep G r (fun a => H a = none) H' d v → Qv v H'
def ini (n : Nat) (ds : List D) : Rho := ds.map (Slot.v false) ++ List.replicate (n - ds.length) .e
section
variable {G : Gp} {E : XK} {H0 H H' Hs : Hp} {r : Option Addr} {M P : Addr → Prop} {X : Cx} {σ : L2.St} {ρ : Rho} {γ : List Gh} {XX : Exn → Prop}
theorem ini_no {n : Nat} {ds : List D} {i : Nat} {s : Slot} (h : (ini n ds)[i]? = some s) : s.isOwn = false := by
  unfold ini at h
  rw [List.getElem?_append] at h
  split at h
  · rw [List.getElem?_map] at h
    cases q : ds[i]? with
    | none => rw [q] at h; cases h
    | some d => rw [q] at h; cases h; rfl
  · rw [List.getElem?_replicate] at h
    split at h
    · cases h; rfl
    · cases h
theorem EnvOk.init {N : List Str} {ds : List D} {vs : List V} (hr : RowOk G.K r H) (h : Reps G r (fun a => some a ≠ r) H ds vs) (hn : ds.length ≤ N.length) : EnvOk G H r [] H (L2.start N vs) (ini N.length ds) := by
  have hl := h.length
  have nomo : ∀ a, ¬ Mo [] (L2.start N vs) (ini N.length ds) a := fun a m => by
    rcases m with ⟨i, s, u, h1, _, h2⟩ | m
    · have z := Slot.owns_own h2
      rw [ini_no h1] at z; cases z
    · cases m
  refine ⟨?_, .refl, fun a e => ?_, hr, fun i s u h1 h2 => ?_, fun i j s t u w a h1 _ _ _ h3 => ?_, fun i s u a h1 _ h2 => ?_, fun g hg => nomatch hg⟩
  · unfold L2.start ini
    rw [List.length_append, List.length_append, List.length_map, List.length_map, List.length_replicate, List.length_replicate, hl]
  · obtain ⟨_, _, _, _, _, q, _⟩ := hr a e
    rw [q]; exact fun z => nomatch z
  · unfold ini at h1
    unfold L2.start at h2
    rw [List.getElem?_append] at h1 h2
    rw [List.length_map] at h1 h2
    by_cases hi : i < ds.length
    · rw [if_pos hi, List.getElem?_map, List.getElem?_eq_getElem hi] at h1
      cases h1
      obtain ⟨x, hx, rx⟩ := h.get (List.getElem?_eq_getElem hi)
      rw [if_pos (by omega), List.getElem?_map, hx] at h2
      cases h2
      exact ⟨x, rfl, rx.imp fun a p => ⟨nomo a, p⟩⟩
    · rw [if_neg hi, List.getElem?_replicate] at h1
      split at h1
      · cases h1; trivial
      · cases h1
  · have z := Slot.owns_own h3
    rw [ini_no h1] at z; cases z
  · have z := Slot.owns_own h2
    rw [ini_no h1] at z; cases z
variable {P : Program} {w : World} {K : PySem.W.Frag} {mg : Str → Option Value} {base : Heap} {fn : DSp} {body : DTS}
/-- a def by its body -/
theorem cS_body {N : List Str} {ds : List D} {vs : List V} {QQ : D → Prop} {Qv : VK} (hr : RowOk G.K r H) (h : Reps G r (fun a => some a ≠ r) H ds vs) (hn : ds.length ≤ N.length) (hx : XOk G E XX r H)
    (hb : body XX { nx := fun _ => QQ .non, rt := QQ } (ini N.length ds)) (post : ∀ v d H', QQ d → SameR r H H' → RowOk G.K r H' → Rep G r (fun a => H a = none) H' d v → Qv v H') :
    cS G E body { nx := fun _ H' => Qv .non H', rt := Qv } (L2.start N vs) H :=
  ⟨H, r, [], _, XX, _, .init hr h hn, hb, hx, ⟨fun σ' H' ρ' env q => post _ _ _ q env.ext env.row rep_non, fun _ _ _ _ q => q.elim, fun _ _ _ _ q => q.elim, fun v d H' q e hr' h => post v d H' q e hr' h⟩⟩
theorem fnD {x qual : Str} {st : Stmt} {f : Addr} {fd : FuncData} {N ps : List Str} {k : Nat} (F : Fun K x qual st f fd) (S : FnScope N ps (defScope st)) (len : ∀ XX ds Q, fn XX ds Q → ds.length = ps.length)
    (hb : ∀ (cdv : Value) (A : Around) (outer : List Env) (s : Shared) (H : Hp) (E : XK), Room k (A.deeper (envOfC qual (defScope st) s.heap.objs.size f cdv)) →
      PSs (cxOf CX0 P w K mg base N qual (defScope st) f cdv A outer s H E).nox (defBody st) (cS G E body))
    (hr : ∀ XX ds Q, fn XX ds Q → body XX { nx := fun _ => Q .non, rt := Q } (ini N.length ds)) : FnOk P w K mg base CX0 (k + 1) f fd ps (spD G fn) := by
  have hps : ps.length ≤ N.length := by have := congrArg List.length S.pre; rw [List.length_take] at this; omega
  refine F.ok S (fun vs H Q E h => ?_) (fun cdv A outer s H vs Q E hroom h => ?_)
  · obtain ⟨r, ds, XX, QQ, _, h2, h3, _⟩ := h
    rw [h2.length, len _ _ _ h3]
  · obtain ⟨r, ds, XX, QQ, h1, h2, h3, h4, h5⟩ := h
    exact ⟨_, hb cdv A outer s H E hroom, cS_body h1 h2 (by rw [len _ _ _ h3]; exact hps) h4 (hr _ _ _ h3) h5⟩
/-- .. that may raise -/
theorem fnDX {x qual : Str} {st : Stmt} {f : Addr} {fd : FuncData} {N ps : List Str} {k : Nat} (F : Fun K x qual st f fd) (S : FnScope N ps (defScope st)) (len : ∀ XX ds Q, fn XX ds Q → ds.length = ps.length)
    (hb : ∀ (cdv : Value) (A : Around) (outer : List Env) (s : Shared) (H : Hp) (E : XK), Room k (A.deeper (envOfC qual (defScope st) s.heap.objs.size f cdv)) →
      PSs (cxOf (L2.CX P w) P w K mg base N qual (defScope st) f cdv A outer s H E) (defBody st) (cS G E body))
    (hr : ∀ XX ds Q, fn XX ds Q → body XX { nx := fun _ => Q .non, rt := Q } (ini N.length ds)) : FnOk P w K mg base (L2.CX P w) (k + 1) f fd ps (spD G fn) := by
  have hps : ps.length ≤ N.length := by have := congrArg List.length S.pre; rw [List.length_take] at this; omega
  refine F.okX S (fun vs H Q E h => ?_) (fun cdv A outer s H vs Q E hroom h => ?_)
  · obtain ⟨r, ds, XX, QQ, _, h2, h3, _⟩ := h
    rw [h2.length, len _ _ _ h3]
  · obtain ⟨r, ds, XX, QQ, h1, h2, h3, h4, h5⟩ := h
    exact ⟨_, hb cdv A outer s H E hroom, cS_body h1 h2 (by rw [len _ _ _ h3]; exact hps) h4 (hr _ _ _ h3) h5⟩
/-- a def that may raise, where it does not -/
def nx (fn : DSp) : DSp := fun _ ds Q => fn (fun _ => False) ds Q
theorem FnOk.nx {k : Nat} {f : Addr} {fd : FuncData} {ps : List Str} (F : FnOk P w K mg base (L2.CX P w) k f fd ps (spD G fn)) : FnOk P w K mg base CX0 k f fd ps (spD G (nx fn)) := by
  have key : ∀ vs H Q E, spD G (HD.nx fn) vs H Q E → spD G fn vs H Q (fun _ _ _ => False) := fun vs H Q E h => by
    obtain ⟨r, ds, XX, QQ, h1, h2, h3, h4, h5⟩ := h
    exact ⟨r, ds, fun _ => False, QQ, h1, h2, h3, fun _ _ _ _ z => z.elim, h5⟩
  refine ⟨fun vs H Q E h => F.len _ _ _ _ (key _ _ _ _ h), fun A outer s H args us vs Q E hr he hb hv hs => ?_⟩
  refine codeAny_mono (F.run A outer s H args us vs Q (fun _ _ _ => False) hr he hb hv (key _ _ _ _ hs)) fun r s' h => ?_
  cases r with
  | ok fl => cases fl <;> exact h
  | error e =>
    obtain ⟨_, _, _, _, _, _, _, _, _, _, _, _, z⟩ := h
    exact z.elim
/-- a def as it is called: where it stands, what it promises -/
structure Cal (P : Program) (w : World) (K : PySem.W.Frag) (mg : Str → Option Value) (base : Heap) (CX : CXT) (k : Nat) (x : Str) (ps : List Str) (sp : Sp) : Prop where
  ex : ∃ f fd, mg x = some (.ref f) ∧ PySem.W.keepIn K (.ref f) = true ∧ Binds K fd ps [] ∧ FnOk P w K mg base CX k f fd ps sp
def dCall (fn : DSp) (t : DTA) : DTE := fun XX ρ Q => t XX ρ fun _ ds => fn (fun _ => False) ds (Q .fr)
def dCallX (fn : DSp) (t : DTA) : DTE := fun XX ρ Q => t XX ρ fun _ ds => fn XX ds (Q .fr)
variable {x m : Str} {p pos apos : Pos} {e o : Expr} {es : List Expr} {dt : DTA} {k : Nat} {ps : List Str} {CX : CXT} {do_ : DTE}
theorem cE_call {Qv : VK} {E' : XK} (h : cE G E (dCall fn dt) σ H Qv) : tCall (spD G fn) [] E' (cA G E dt) σ H Qv := by
  obtain ⟨H0, r, γ, ρ, XX, Q, env, q, hx, post⟩ := h
  refine cA_at (Now.start env) q hx fun vs k ds H1 q1 e1 N1 r1 => ?_
  rw [List.append_nil]
  refine ⟨r, ds, fun _ => False, _, N1.row, r1.imp fun a p => N1.cxt.ne_r p, q1, fun _ _ _ _ z => z.elim, fun v d H' q2 e2 hr2 r2 => ?_⟩
  exact post v .fr d H' q2 (e1.trans e2) hr2 (r2.imp fun a p => e1.there a p)
theorem pd_call {fn : DSp} (C : Cal X.prog X.w X.K X.mg X.base CX0 k x ps (spD G fn)) (hr : Room k X.A) (ha : PA X (e :: es) (cA G E dt)) (hg : Gl X x := by rfl) (hdb : (x == ("__debug__" : Str)) = false := by decide)
    (he : starEach (e :: es) X.env = (false, eval e X.env) :: starEach es X.env := by rfl) (hpl : (backTo pos (starEach es X.env)).any (·.1) = false := by rfl) :
    PE X (.Call (.Name x p) (e :: es) [] pos) (cE G E (dCall fn dt)) := by
  obtain ⟨f, fd, h1, h2, h3, h4⟩ := C.ex
  exact pe_weak (pe_call h4 hr hg h1 h2 h3 .nil pass0 ha hdb he hpl) fun _ _ _ h => cE_call h
theorem pd_callX {fn : DSp} (C : Cal X.prog X.w X.K X.mg X.base (L2.CX X.prog X.w) k x ps (spD G fn)) (hr : Room k X.A) (tk : Takes X (fun cls d _ H => E cls d H)) (ha : PA X (e :: es) (cA G E dt)) (hg : Gl X x := by rfl) (hdb : (x == ("__debug__" : Str)) = false := by decide)
    (he : starEach (e :: es) X.env = (false, eval e X.env) :: starEach es X.env := by rfl) (hpl : (backTo pos (starEach es X.env)).any (·.1) = false := by rfl) :
    PE X (.Call (.Name x p) (e :: es) [] pos) (cE G E (dCallX fn dt)) := by
  obtain ⟨f, fd, h1, h2, h3, h4⟩ := C.ex
  refine pe_weak (pe_call h4 hr hg h1 h2 h3 .nil (E := E) (passes_call tk fun _ _ _ _ h => h) ha hdb he hpl) fun σ H Qv h => ?_
  obtain ⟨H0, r, γ, ρ, XX, Q, env, q, hx, post⟩ := h
  refine cA_at (Now.start env) q hx fun vs k ds H1 q1 e1 N1 r1 => ?_
  rw [List.append_nil]
  refine ⟨r, ds, XX, _, N1.row, r1.imp fun a p => N1.cxt.ne_r p, q1, fun xn cls dd H' h1 h2 h3 h4 => hx xn cls dd H' h1 (N1.now.ext.trans h2) h3 h4, fun v d H' q2 e2 hr2 r2 => ?_⟩
  exact post v .fr d H' q2 (e1.trans e2) hr2 (r2.imp fun a p => e1.there a p)
/-! ### methods and the field of a case -/
structure CalM (P : Program) (w : World) (K : PySem.W.Frag) (mg : Str → Option Value) (base : Heap) (CX : CXT) (k : Nat) (C : Addr) (m : Str) (ps : List Str) (sp : Sp) : Prop where
  ex : ∃ f fd, Meth K C m f ∧ Binds K fd ps [] ∧ FnOk P w K mg base CX k f fd ps sp
def dMeth (fn : DSp) (da : DTE) (t : DTA) : DTE := fun XX ρ Q => da XX ρ fun _ d => ∃ fs, d = .obj fs ∧ t XX ρ fun _ ds => fn (fun _ => False) (.obj fs :: ds) (Q .fr)
theorem cE_meth {Qv : VK} {E' : XK} {da : DTE} (hm : (m == ("kept_faces" : Str)) = false) (h : cE G E (dMeth fn da dt) σ H Qv) : tMeth G.cC m (spD G fn) [] E' (cE G E da) (cA G E dt) σ H Qv := by
  obtain ⟨H0, r, γ, ρ, XX, Q, env, q, hx, post⟩ := h
  refine cE_at (Now.start env) q hx fun x k d H1 ⟨fs, hd, q1⟩ e1 N1 r1 => ?_
  subst hd
  have r1' := r1
  unfold Rep at r1'
  obtain ⟨a, dx, l, o, xs, rfl, h1, _⟩ := r1'
  refine ⟨a, dx, _, rfl, h1, ?_, ?_⟩
  · rw [List.lookup, hm]
    rfl
  refine cA_at N1 q1 hx fun vs k2 ds H2 q2 e2 N2 r2 => ?_
  rw [List.append_nil]
  refine ⟨r, .obj fs :: ds, fun _ => False, _, N2.row, .cons ((N1.cxt.pers e2 r1).imp fun a p => N2.cxt.ne_r p) (r2.imp fun a p => N2.cxt.ne_r p), q2, fun _ _ _ _ z => z.elim, fun v d H' q3 e3 hr3 r3 => ?_⟩
  exact post v .fr d H' q3 (N2.ex.trans e3) hr3 (r3.imp fun a p => N2.ex.there a p)
theorem pd_meth {da : DTE} {pl : Sem Bool} (c : Cls X.K G.cC) (C : CalM X.prog X.w X.K X.mg X.base CX0 k G.cC m ps (spD G fn)) (hr : Room k X.A) (ho : PE X o (cE G E da)) (ha : PA X (e :: es) (cA G E dt)) (hm : (m == ("kept_faces" : Str)) = false := by decide)
    (hst : starEach (e :: es) X.env = (false, eval e X.env) :: starEach es X.env := by rfl) (hpl : (backTo pos (starEach es X.env)).any (·.1) = false := by rfl)
    (ht : eval (.Call (.Attribute o m apos) (e :: es) [] pos) X.env = (do
      let ov ← eval o X.env
      standAt apos.atName
      let (f, first) ← holding [ov] (getMethod ov m pl)
      callWith pos f first (backTo pos (starEach (e :: es) X.env)) (backToKw pos (keywordEach [] X.env))) := by rfl) : PE X (.Call (.Attribute o m apos) (e :: es) [] pos) (cE G E (dMeth fn da dt)) := by
  obtain ⟨f, fd, h1, h2, h3⟩ := C.ex
  exact pe_weak (pe_meth (pl := pl) ho c h1 h3 hr h2 .nil pass0 ha hst hpl ht) fun _ _ _ h => cE_meth hm h
theorem pd_meth0 {da : DTE} {pl : Sem Bool} (c : Cls X.K G.cC) (C : CalM X.prog X.w X.K X.mg X.base CX0 k G.cC m ps (spD G fn)) (hr : Room k X.A) (ho : PE X o (cE G E da)) (hm : (m == ("kept_faces" : Str)) = false := by decide)
    (ht : eval (.Call (.Attribute o m apos) [] [] pos) X.env = (do
      let ov ← eval o X.env
      standAt apos.atName
      let (f, first) ← holding [ov] (getMethod ov m pl)
      callWith pos f first (backTo pos (starEach [] X.env)) (backToKw pos (keywordEach [] X.env))) := by rfl) : PE X (.Call (.Attribute o m apos) [] [] pos) (cE G E (dMeth fn da dNil)) := by
  obtain ⟨f, fd, h1, h2, h3⟩ := C.ex
  refine pe_weak (pe_meth0 (pl := pl) ho c h1 h3 hr h2 .nil pass0 ht) fun σ H Qv h => ?_
  obtain ⟨x, hx⟩ : ∃ x, x = cE_meth (E' := E0) hm h := ⟨_, rfl⟩
  clear hx
  exact meth0_nil (m := m) x
where
  meth0_nil {G : Gp} {E : XK} {m : Str} {fn : DSp} {da : DTE} {σ : L2.St} {H : Hp} {Qv : VK} (h : tMeth G.cC m (spD G fn) [] E0 (cE G E da) (cA G E dNil) σ H Qv) : tMeth G.cC m (spD G fn) [] E0 (cE G E da) tNil σ H Qv := by
    obtain ⟨H0, r, γ, ρ, XX, Q, env, q, hx, post⟩ := h
    refine ⟨H0, r, γ, ρ, XX, Q, env, q, hx, fun v k d H' q1 e hr h1 => ?_⟩
    obtain ⟨a, dx, fs, e1, e2, e3, q2⟩ := post v k d H' q1 e hr h1
    refine ⟨a, dx, fs, e1, e2, e3, ?_⟩
    obtain ⟨H0', r', γ', ρ', XX', Q', env', q', hx', post'⟩ := q2
    exact post' [] .fr [] H' q' .refl env'.row .nil
/-- case.kept_faces -/
def dFld (da : DTE) : DTE := fun XX ρ Q => da XX ρ fun k d => ∃ fs, d = .obj fs ∧ Q k (.fls fs)
theorem pd_fld {da : DTE} (c : Cls X.K G.cC) (na : NoAttr X.K G.cC "kept_faces") (he : PE X e (cE G E da)) (hb : attributeBase e "kept_faces" X.env (eval e X.env) = eval e X.env := by rfl) : PE X (.Attribute e "kept_faces" pos) (cE G E (dFld da)) :=
  pe_weak (pe_fld he hb) fun σ H Qv h => by
  obtain ⟨H0, r, γ, ρ, XX, Q, env, q, hx, post⟩ := h
  refine cE_at (Now.start env) q hx fun x k d H1 ⟨fs, hd, q1⟩ e1 N1 r1 => ?_
  subst hd
  unfold Rep at r1
  obtain ⟨a, dx, l, o, xs, rfl, h1, h3, h4⟩ := r1
  refine ⟨a, G.cC, dx, _, _, rfl, h1, c, na, rfl, post _ k _ H1 q1 e1 N1.row ?_⟩
  unfold Rep
  exact ⟨l, o, xs, rfl, h3, h4⟩
end
end HD

set_option Elab.async false
set_option linter.all false
set_option maxRecDepth 100000
namespace HD
open PySem PySem.Spec PyProof.Rows L2
theorem bt_len : bootBuiltins "len" = some (.builtin "len") := by decide +kernel
theorem bt_min : bootBuiltins "min" = some (.builtin "min") := by decide +kernel
theorem bt_max : bootBuiltins "max" = some (.builtin "max") := by decide +kernel
theorem bt_sum : bootBuiltins "sum" = some (.builtin "sum") := by decide +kernel
theorem bt_sorted : bootBuiltins "sorted" = some (.builtin "sorted") := by decide +kernel
theorem bt_isinstance : bootBuiltins "isinstance" = some (.builtin "isinstance") := by decide +kernel
theorem bt_list : bootBuiltins "list" = some (.type "list") := by decide +kernel
theorem bt_tuple : bootBuiltins "tuple" = some (.type "tuple") := by decide +kernel
theorem bt_int : bootBuiltins "int" = some (.type "int") := by decide +kernel
theorem bt_str : bootBuiltins "str" = some (.type "str") := by decide +kernel
theorem bt_set : bootBuiltins "set" = some (.type "set") := by decide +kernel
theorem bt_bool : bootBuiltins "bool" = some (.type "bool") := by decide +kernel
theorem bt_ValueError : bootBuiltins "ValueError" = some (.type "ValueError") := by decide +kernel
section
variable {X : Cx}
theorem blk2 {N : List Str} {sc scope1 scope : Scope} {own : List (Str × Nat)} {cl : List (Str × Addr)} {C : Addr} (h : blkC N (relS scope1 sc) scope own = true) (hN : X.N = N := by rfl) (hs : X.env.scope = sc := by rfl) :
    BlkOk X.N (compEnvC scope1 cl C X.env).scope scope own := by
  subst hN hs
  exact blkOk_by h
/-- three comparisons in a chain -/
def tChain3 (r r' r'' : R2) (ta tb tc td : TE) : TE := fun σ H Q => ta σ H fun x H1 => tb σ H1 fun y H2 => r x y H2 fun z H3 => ∃ k, z = .bl k ∧
  (if k = true then tc σ H3 fun w' H4 => r' y w' H4 fun z2 H5 => ∃ k2, z2 = .bl k2 ∧ (if k2 = true then td σ H5 fun w2 H6 => r'' w' w2 H6 Q else Q (.bl false) H5) else Q (.bl false) H3)
variable {a b c d : Expr} {pos : Pos} {ta tb tc td : TE}
theorem pe_chain3 {op op' op'' : CmpOp} {r r' r'' : R2} (ho : OpR X (compareOp op) r) (ho' : OpR X (compareOp op') r') (ho'' : OpR X (compareOp op'') r'') (ha : PE X a ta) (hb : PE X b tb) (hc : PE X c tc) (hd : PE X d td)
    (hm : lastMarks [op, op', op''] [b, c, d] = false := by with_unfolding_all rfl) : PE X (.Compare a [op, op', op''] [b, c, d] pos) (tChain3 r r' r'' ta tb tc td) := by
  refine ⟨fun pins s σ H Q I h => ?_⟩
  refine Compare_chain (thn (ha.run pins s σ H _ I h) fun v s1 ⟨x, H1, I1, r1, q1⟩ => chain_link (thn (hb.run pins s1 σ H1 _ I1 q1) fun u s2 ⟨y, H2, I2, r2, q2⟩ =>
    thn (ho pins s2 σ H2 x y v u _ I2 r1 r2 q2) fun d s3 ⟨z, H3, I3, r3, k, e, q3⟩ => ?_)) hm
  subst e
  cases r3
  refine wpAny_truthy_bool ?_
  cases k with
  | false => exact ite_ff ⟨.bl false, H3, I3, rfl, q3⟩
  | true =>
    refine ite_tt (chain_link (thn (hc.run pins s3 σ H3 _ I3 q3) fun w' s4 ⟨z', H4, I4, r4, q4⟩ => thn (ho' pins s4 σ H4 y z' u w' _ I4 r2 r4 q4) fun d' s5 ⟨z2, H5, I5, r5, k2, e2, q5⟩ => ?_))
    subst e2
    cases r5
    refine wpAny_truthy_bool ?_
    cases k2 with
    | false => exact ite_ff ⟨.bl false, H5, I5, rfl, q5⟩
    | true => exact ite_tt (chain_last (thn (hd.run pins s5 σ H5 _ I5 q5) fun w2 s6 ⟨z3, H6, I6, r6, q6⟩ => ho'' pins s6 σ H6 z' z3 w' w2 Q I6 r4 r6 q6))
theorem pt_chain3 {op op' op'' : CmpOp} {r r' r'' : R2} (ho : OpR X (compareOp op) r) (ho' : OpR X (compareOp op') r') (ho'' : OpR X (compareOp op'') r'') (ha : PE X a ta) (hb : PE X b tb) (hc : PE X c tc) (hd : PE X d td)
    (hm : lastMarks [op, op', op''] [b, c, d] = false := by with_unfolding_all rfl) : PT X (.Compare a [op, op', op''] [b, c, d] pos) (tTest (tChain3 r r' r'' ta tb tc td)) := by
  refine ⟨fun pins s σ H Q I h => ?_⟩
  refine isTrue_chain (thn (ha.run pins s σ H _ I h) fun v s1 ⟨x, H1, I1, r1, q1⟩ => test_link (thn (hb.run pins s1 σ H1 _ I1 q1) fun u s2 ⟨y, H2, I2, r2, q2⟩ =>
    thn (ho pins s2 σ H2 x y v u _ I2 r1 r2 q2) fun d s3 ⟨z, H3, I3, r3, k, e, q3⟩ => ?_)) hm
  subst e
  cases r3
  refine wpAny_truthy_bool ?_
  cases k with
  | false =>
    obtain ⟨k', e', q'⟩ := q3
    cases e'
    exact ite_ff ⟨H3, I3, q'⟩
  | true =>
    refine ite_tt (test_link (thn (hc.run pins s3 σ H3 _ I3 q3) fun w' s4 ⟨z', H4, I4, r4, q4⟩ => thn (ho' pins s4 σ H4 y z' u w' _ I4 r2 r4 q4) fun d' s5 ⟨z2, H5, I5, r5, k2, e2, q5⟩ => ?_))
    subst e2
    cases r5
    refine wpAny_truthy_bool ?_
    cases k2 with
    | false =>
      obtain ⟨k', e', q'⟩ := q5
      cases e'
      exact ite_ff ⟨H5, I5, q'⟩
    | true =>
      refine ite_tt (test_last (thn (hd.run pins s5 σ H5 _ I5 q5) fun w2 s6 ⟨z3, H6, I6, r6, q6⟩ => thn (ho'' pins s6 σ H6 z' z3 w' w2 _ I6 r4 r6 q6) fun d2 s7 ⟨z4, H7, I7, r7, k3, e3, q7⟩ => ?_))
      subst e3
      cases r7
      exact wpAny_truthy_bool ⟨H7, I7, q7⟩
end
section
variable {G : Gp} {E : XK} {H0 H H' Hs : Hp} {r : Option Addr} {X : Cx} {σ : L2.St} {ρ : Rho} {γ : List Gh} {XX : Exn → Prop} {a b c d : Expr} {pos : Pos} {da db dc dd : DTE}
def dChain3 (r1 r2 r3 : DR2) (da db dc dd : DTE) : DTE := fun XX ρ Q => da XX ρ fun k1 d1 => db XX ρ fun k2 d2 => r1 k1 d1 k2 d2 fun _ z => ∃ b, z = .bl b ∧
  if b = true then dc XX ρ fun k3 d3 => r2 k2 d2 k3 d3 fun _ z => ∃ b, z = .bl b ∧ if b = true then dd XX ρ fun k4 d4 => r3 k3 d3 k4 d4 Q else Q .fr (.bl false) else Q .fr (.bl false)
theorem cE_chain3 {r1 r2 r3 : DR2} {Qv : VK} (h : cE G E (dChain3 r1 r2 r3 da db dc dd) σ H Qv) : tChain3 (cR2 G r1) (cR2 G r2) (cR2 G r3) (cE G E da) (cE G E db) (cE G E dc) (cE G E dd) σ H Qv := by
  obtain ⟨H0, r, γ, ρ, XX, Q, env, q, hx, post⟩ := h
  refine cE_at (Now.start env) q hx fun x k1 d1 H1 q1 e1 N1 r1 => ?_
  refine cE_at N1 q1 hx fun y k2 d2 H2 q2 e2 N2 r2 => ?_
  refine ⟨H0, r, Mo γ σ ρ, H, k1, d1, k2, d2, _, N2.cxt, q2, N1.cxt.pers e2 r1, r2, fun v k d H3 q e hr h => ?_⟩
  obtain ⟨b, rfl, q3⟩ := q
  refine ⟨b, rep_b h, ?_⟩
  have N3 := N2.step e hr
  cases b with
  | true =>
    rw [if_pos rfl] at q3 ⊢
    refine cE_at N3 q3 hx fun z k3 d3 H4 q4 e4 N4 r4 => ?_
    refine ⟨H0, r, Mo γ σ ρ, H, k2, d2, k3, d3, _, N4.cxt, q4, N3.cxt.pers e4 (N2.cxt.pers e r2), r4, fun v k d H5 q e' hr' h' => ?_⟩
    obtain ⟨b, rfl, q5⟩ := q
    refine ⟨b, rep_b h', ?_⟩
    have N5 := N4.step e' hr'
    cases b with
    | true =>
      rw [if_pos rfl] at q5 ⊢
      refine cE_at N5 q5 hx fun z k4 d4 H6 q6 e6 N6 r6 => ?_
      exact ⟨H0, r, Mo γ σ ρ, H, k3, d3, k4, d4, Q, N6.cxt, q6, N5.cxt.pers e6 (N4.cxt.pers e' r4), r6, fun v k d H' q e hr h => post v k d H' q (N6.ex.trans e) hr h⟩
    | false => exact post _ _ _ _ q5 N5.ex N5.row rep_bl
  | false => exact post _ _ _ _ q3 N3.ex N3.row rep_bl
theorem pd_chain3 {op op' op'' : CmpOp} {r1 r2 r3 : DR2} (ho : OpR X (compareOp op) (cR2 G r1)) (ho' : OpR X (compareOp op') (cR2 G r2)) (ho'' : OpR X (compareOp op'') (cR2 G r3)) (ha : PE X a (cE G E da)) (hb : PE X b (cE G E db)) (hc : PE X c (cE G E dc)) (hd : PE X d (cE G E dd))
    (hm : lastMarks [op, op', op''] [b, c, d] = false := by with_unfolding_all rfl) : PE X (.Compare a [op, op', op''] [b, c, d] pos) (cE G E (dChain3 r1 r2 r3 da db dc dd)) := pe_weak (pe_chain3 ho ho' ho'' ha hb hc hd hm) fun _ _ _ h => cE_chain3 h
theorem ptd_chain3 {op op' op'' : CmpOp} {r1 r2 r3 : DR2} (ho : OpR X (compareOp op) (cR2 G r1)) (ho' : OpR X (compareOp op') (cR2 G r2)) (ho'' : OpR X (compareOp op'') (cR2 G r3)) (ha : PE X a (cE G E da)) (hb : PE X b (cE G E db)) (hc : PE X c (cE G E dc)) (hd : PE X d (cE G E dd))
    (hm : lastMarks [op, op', op''] [b, c, d] = false := by with_unfolding_all rfl) : PT X (.Compare a [op, op', op''] [b, c, d] pos) (cT G E (dB (dChain3 r1 r2 r3 da db dc dd))) := pt_weak (pt_chain3 ho ho' ho'' ha hb hc hd hm) fun _ _ _ h => by
    obtain ⟨H0, r, γ, ρ, XX, Q, env, q, hx, post⟩ := h
    refine cE_chain3 ⟨H0, r, γ, ρ, XX, _, env, q, hx, fun v k d H' q e hr h => ?_⟩
    obtain ⟨b, rfl, q2⟩ := q
    exact ⟨b, rep_b h, post b H' q2 e hr⟩
end
end HD

set_option Elab.async false
set_option linter.all false
set_option maxRecDepth 100000
namespace HD
open PySem PySem.Spec PyProof.Rows L2
section
variable {G : Gp} {E : XK} {X : Cx} {e : Expr} {da : DTE} {pos : Pos}
/-- -a -/
def dNeg (da : DTE) : DTE := fun XX ρ Q => da XX ρ fun _ d => ∃ i, d = .int i ∧ Q .fr (.int (-i))
theorem pd_neg (ha : PE X e (cE G E da)) : PE X (.UnaryOp .USub e pos) (cE G E (dNeg da)) := pe_weak (pe_un un_neg ha) fun σ H Qv h => by
  obtain ⟨H0, r, γ, ρ, XX, Q, env, q, hx, post⟩ := h
  refine cE_at (Now.start env) q hx fun x k d H1 ⟨i, hd, q1⟩ e1 N1 r1 => ?_
  subst hd
  exact ⟨i, rep_i r1, post _ _ _ _ q1 e1 N1.row rep_int⟩
end
/-! ### what is read off by computing -/
theorem ex_eq {α : Type} {a : α} {p : α → Prop} (h : p a) : ∃ x, a = x ∧ p x := ⟨a, rfl, h⟩
theorem ixN_nat {n j : Nat} (h : j < n) : ixN n (j : Int) = some j := by
  unfold ixN
  rw [if_pos (by omega), if_pos (by omega)]
  simp
theorem ixN_last {n : Nat} (h : 0 < n) : ixN n (-1) = some (n - 1) := by
  unfold ixN
  rw [if_neg (by decide), if_pos (by omega)]
  congr 1
  omega
theorem atI_map {α β : Type} (f : α → β) (l : List α) (i : Int) : atI (l.map f) i = (atI l i).map f := by
  unfold atI
  rw [List.length_map]
  cases ixN l.length i with
  | none => rfl
  | some j => simp
theorem cmps_map {α : Type} {f : α → D} {n : Nat} (h : ∀ a, (f a).cmp n = true) : ∀ l : List α, D.cmps n (l.map f) = true
  | [] => by unfold List.map D.cmps; rfl
  | a :: l => by rw [List.map_cons]; unfold D.cmps; rw [h a, cmps_map h l]; rfl
theorem cmps_of {n : Nat} : ∀ {l : List D}, (∀ d ∈ l, d.cmp n = true) → D.cmps n l = true
  | [], _ => by unfold D.cmps; rfl
  | a :: l, h => by unfold D.cmps; rw [h a List.mem_cons_self, cmps_of fun d hd => h d (List.mem_cons_of_mem _ hd)]; rfl
theorem flats_map {α : Type} {f : α → D} (h : ∀ a, (f a).flat = true) : ∀ l : List α, D.flats (l.map f) = true
  | [] => by unfold List.map D.flats; rfl
  | a :: l => by rw [List.map_cons]; unfold D.flats; rw [h a, flats_map h l]; rfl
/-- readings told by lists of equations -/
theorem dVar_v {i : Nat} {XX : Exn → Prop} {ρ : Rho} {Q : KQ} {n : Bool} {d : D} (h : ρ[i]? = some (.v n d)) (q : Q (nk n) d) : dVar i XX ρ Q := ⟨_, h, q⟩
end HD

set_option Elab.async false
set_option linter.all false
set_option maxRecDepth 100000
set_option maxHeartbeats 4000000
/-! sorted(set(list of ints)), any length -/
namespace HD
open PySem PySem.Spec PyProof.Rows L2
section
variable {P : Program} {w : World} {A : Around} {E : Value → Shared → Prop} {s : Shared}
theorem setOfList {l : Addr} {items : Array Value} (ns : List Int) {Q : Value → Shared → Prop} (hh : A.handled = none) (hl : s.heap.IsList l items) (hit : IntsAre items.toList ns) (hb : ns.length + 1 < scanBound)
    (h : ∀ (h' : Heap) (tk c : Nat), SetR w h' s.heap.objs.size (fun j => decide (j ∈ ns)) c → c ≤ ns.length → (∀ b o, s.heap.get? b = some o → h'.get? b = some o) → Q (.ref s.heap.objs.size) { s with heap := h', toks := tk }) :
    wpAny (model P w) A (call (.type "set") [.ref l]) Q E s := by
  have hisz : items.size = ns.length := by
    have q := IntsAre.length hit
    rw [Array.length_toList] at q
    exact q
  obtain ⟨c, tl, hmro⟩ := F.called_set.mro
  have hmade := F.called_set.made
  have hsub := F.called_set.sub
  refine wpAny_call (codeAny_of_tree ?_)
  show wpAny _ _ (callAny (.type "set") _) _ _ _
  refine wpAny_pure ⟨Code.quiet_builtin _ (by decide +kernel), codeAny_builtin F.entry_type_call ?_⟩
  rw [Around.under_plain (weight_type_call_type "set" [.ref l] []) rfl]
  have h1 := F.called_set.notType
  have h2 := F.called_set.canCreate
  have hct := F.typeCall_set_1 (.ref l)
  repeat (any_goals (first | assumption | wp_step))
  refine codeAny_mono (code_set_led1 (.ref l) (E := E) (Q₁ := fun obj s₁ => obj = .ref s.heap.objs.size ∧ s₁ = { s with heap := s.heap.push { cls := .type "set", dict := none, data := .set #[] 0 (.fresh 0 0 (!w.params.followText "set-order")) } }) ⟨rfl, rfl⟩) fun r s₁ hr => ?_
  cases r with
  | error e => exact hr
  | ok fl =>
    cases fl with
    | ret obj =>
      obtain ⟨rfl, rfl⟩ := hr
      have hS : (s.heap.push { cls := .type "set", dict := none, data := .set #[] 0 (.fresh 0 0 (!w.params.followText "set-order")) }).get? s.heap.objs.size = some { cls := .type "set", dict := none, data := .set #[] 0 (.fresh 0 0 (!w.params.followText "set-order")) } := Heap.get?_push_size _ rfl
      have hT : Shared.TypeIs { s with heap := s.heap.push { cls := .type "set", dict := none, data := .set #[] 0 (.fresh 0 0 (!w.params.followText "set-order")) } } (.ref s.heap.objs.size) "set" := ⟨_, hS, rfl⟩
      have hli := F.called_set.init.lookup
      have hbi := F.called_set.init.bind (.ref s.heap.objs.size)
      repeat (any_goals (first | assumption | wp_step))
      refine codeAny_mono (codeAny_call_builtin (R := wants (fun r s₂ => r = .none ∧ ∃ h' tk c, s₂ = { s with heap := h', toks := tk } ∧ SetR w h' s.heap.objs.size (fun j => decide (j ∈ ns)) c ∧ c ≤ ns.length ∧
          (∀ b o, s.heap.get? b = some o → h'.get? b = some o)) E) F.called_set.init.plain F.entry_set_init (check_set_init_1 hT ?_)) fun r₂ s₂ hr₂ => ?_
      · obtain ⟨ol, hol, hcl, nl, hdl⟩ := hl
        obtain ⟨ocls, odict, odata, oslots⟩ := ol
        simp only at hcl hdl
        subst hcl; subst hdl
        have hol' : (s.heap.push { cls := .type "set", dict := none, data := .set #[] 0 (.fresh 0 0 (!w.params.followText "set-order")) }).get? l = some { cls := .type "list", dict := odict, data := .seq items nl, slots := oslots } := Heap.get?_push_of_some _ hol
        have hsls := F.sub_list_set
        have hslf := F.sub_list_frozenset
        have hne : (Value.type "list" == Value.type "dict") = false := by decide
        have hl1 : (s.heap.push { cls := .type "set", dict := none, data := .set #[] 0 (.fresh 0 0 (!w.params.followText "set-order")) }).IsList l items := ⟨_, hol', rfl, nl, rfl⟩
        unfold Builtin.«set.__init__» noKeywords Builtin.Frozenset.updateFrom
        generalize hPI : pyIter = PI
        wp_walk
        subst hPI
        refine wpAny_pyIter_list hl1 ?_
        refine wpAny_bind (wpAny_runValue ?_)
        have hlS : l < s.heap.objs.size := Heap.lt_size hol
        have hh3 : A.in1.in1.in1.handled = none := by simp [hh]
        have hneI : l ≠ (s.heap.push { cls := .type "set", dict := none, data := .set #[] 0 (.fresh 0 0 (!w.params.followText "set-order")) }).objs.size := by
          rw [Heap.size_push]; exact Nat.ne_of_lt (Nat.lt_succ_of_lt hlS)
        have hSf : s.heap.objs.size ∉ [(s.heap.push { cls := .type "set", dict := none, data := .set #[] 0 (.fresh 0 0 (!w.params.followText "set-order")) }).objs.size, l] := by
          rw [Heap.size_push]; simp only [List.mem_cons, List.mem_singleton, List.not_mem_nil, or_false, not_or]
          exact ⟨Nat.ne_of_lt (Nat.lt_succ_self _), Nat.ne_of_gt hlS⟩
        have hval : ∀ (i : Nat) (v : Value), items[i]? = some v → ∃ k t, ns[i]? = some k ∧ v = .int k t := fun i v hv => by
          have hi : i < ns.length := by rw [← hisz]; exact (Array.getElem?_eq_some_iff.mp hv).1
          obtain ⟨t, e⟩ := PyProof.Rows.IntsAre.int_at hit i v (by rw [Array.getElem?_toList]; exact hv)
          refine ⟨ns[i], t, List.getElem?_eq_getElem hi, ?_⟩
          rw [e, List.getD_eq_getElem?_getD, List.getElem?_eq_getElem hi] <;> rfl
        refine set_update_ints ((Walks.list hh3 _ l hneI items).toS) s.heap.objs.size
          hSf ns hisz hb hval (items.size - 0) 0 _ (by omega) (Nat.zero_le _)
          ⟨⟨_, Heap.get?_push_size _ rfl, rfl, rfl⟩, (hl1.push _)⟩ ?hS0 ?hR
        case hS0 =>
          have hget : ((s.heap.push { cls := .type "set", dict := none, data := .set #[] 0 (.fresh 0 0 (!w.params.followText "set-order")) }).push { cls := .type "list_iterator", data := .fields #[.ref l, .int 0 0] }).get? s.heap.objs.size
              = some { cls := .type "set", dict := none, data := .set #[] 0 (.fresh 0 0 (!w.params.followText "set-order")) } := Heap.get?_push_of_some _ hS
          exact ⟨0, Nat.le_refl 0, setR_new_at hget⟩
        case hR =>
          intro s' c' hm hc' hS'
          obtain ⟨h', g2, d', tk', os'⟩ := s'
          have eg : g2 = s.gens := hm.gens
          have ed : d' = s.drawn := hm.drawn
          have eo : os' = s.os := hm.os
          subst eg; subst ed; subst eo
          show wpAny _ _ _ _ _ _
          refine wpAny_pure ?_
          show wpAny _ _ (ret Value.none) _ _ _
          rw [hisz] at hc'
          refine wpAny_pure ⟨rfl, h', tk', c', rfl, hS', hc', fun b o e => ?_⟩
          have hb0 : b < s.heap.objs.size := Heap.lt_size e
          have hb1 : b ≠ s.heap.objs.size := Nat.ne_of_lt hb0
          have hb2 : b ≠ (s.heap.push { cls := .type "set", dict := none, data := .set #[] 0 (.fresh 0 0 (!w.params.followText "set-order")) }).objs.size := by
            rw [Heap.size_push]; exact Nat.ne_of_lt (Nat.lt_succ_of_lt hb0)
          exact hm.heap b o (by simp only [List.mem_cons, List.mem_singleton, List.not_mem_nil, or_false, not_or]; exact ⟨hb1, hb2⟩) (Heap.get?_push_of_some _ (Heap.get?_push_of_some _ e))
      · cases r₂ with
        | error e => exact hr₂
        | ok fl₂ =>
          cases fl₂ with
          | ret r =>
            obtain ⟨rfl, h', tk, c', rfl, hS', hc', hk'⟩ := hr₂
            repeat (any_goals (first | assumption | wp_step))
            exact h _ _ _ hS' hc' hk'
          | _ => exact hr₂.elim
    | _ => exact hr.elim
/-- sorted(set), any number of members -/
theorem sortedOfSet {a : Addr} {S : Int → Bool} {n : Nat} {Q : Value → Shared → Prop} (R : SetR w s.heap a S n) (hh : A.handled = none)
    (hQ : ∀ s' p (out : List Value) (c : Nat) (ns : List Int), (∀ b o, s.heap.get? b = some o → s'.heap.get? b = some o) → s'.gens = s.gens → s'.os = s.os → s.heap.objs.size ≤ p →
      s'.heap.get? p = some (seqObj "list" out.toArray c) → IntsAre out ns → ns.Pairwise (· < ·) → (∀ k, k ∈ ns ↔ S k = true) → ns.length = n → Q (.ref p) s') :
    wpAny (model P w) A (call (.builtin "sorted") [.ref a]) Q E s := by
  obtain ⟨o, es, ep, t, ho, hex, hd, g, nd, hm, hb, hf, hn, hr, hl⟩ := R
  refine Calls.call_function_entry kind_sorted plain_sorted entry_sorted (args_sorted1 _) ?_
  unfold Builtin.«sorted»
  refine wpAny_bind (m := checkCount "sorted" 1 1 _) (wpAny_pure ?_)
  refine wpAny_bind (collect_set (A := A.in1) hh ⟨o, ho, hex.1, hd⟩ hf hb hr hl fun s1 vs k1 hz g1 o1 pm => ?_)
  have hvl : vs.length = n := by rw [pm.length_eq, List.length_map, Array.length_toList]; exact hn
  have hvz : vs.length ≤ sizeLine := by rw [hvl, ← hn]; exact fits_of_scanBound hb
  have hI : IntsAre vs (vs.map Builtin.Re.reRawOf) := ints_of vs fun v hv => by
    obtain ⟨e, he, q⟩ := List.mem_map.mp (pm.mem_iff.mp hv)
    obtain ⟨k, tk, h1, _⟩ := g e he
    exact ⟨k, tk, by rw [← q]; exact h1⟩
  have pk : (vs.map Builtin.Re.reRawOf).Perm (es.toList.map keyOf) := by
    have q := pm.map Builtin.Re.reRawOf
    rw [List.map_map] at q
    exact q
  refine wpAny_bind (wpAny_newList ?_ hvz)
  have hoL : (s1.heap.push (seqObj "list" vs.toArray 0)).get? s1.heap.objs.size = some (seqObj "list" vs.toArray 0) := Heap.get?_push_size _ rfl
  refine wpAny_bind (wpAny_holding (wpAny_call_entry slot_list_sort ⟨_, hoL, rfl⟩ entry_list_sort (SrtO.list_sort_ord SrtO.swo_int hoL hvz (fun h2 => SrtO.ints_sortable hI h2) fun out h1 h2 => ⟨_, rfl, ?_⟩) (args_list_sort _)))
  obtain ⟨a1, a2, a3⟩ := SrtO.ints_out hI h1 h2
  obtain ⟨c, hc⟩ := sortedHeap_at (vs := vs) (out := out.toArray) hoL
  have pn : (out.map SrtO.iv).Perm (es.toList.map keyOf) := a2.trans pk
  refine wpAny_pure ⟨_, rfl, hQ _ s1.heap.objs.size out c (out.map SrtO.iv) (fun b u e => ?_) g1 o1 hz hc a1 (lt_of_le_nodup _ a3 (pn.nodup_iff.mpr nd)) (fun k => by rw [pn.mem_iff, ← hm k]) ?_⟩
  · have q := k1 b u e
    have hlt := Heap.lt_size q
    show (sortedHeap (s1.heap.push (seqObj "list" vs.toArray 0)) s1.heap.objs.size vs out.toArray).get? b = some u
    rw [sortedHeap_old (Nat.ne_of_lt hlt) (by rw [size_push']; exact Nat.lt_succ_of_lt hlt)]
    exact Heap.get?_push_of_some _ q
  · rw [pn.length_eq, List.length_map, Array.length_toList]; exact hn
end
section
variable {X : Cx}
def rSetL (w : World) : List V → Hp → VK → Prop := fun vs H Q => ∃ (a : Addr) (ns : List Int), vs = [V.ref a] ∧ H a = some (.lst (ns.map V.int)) ∧ ns.length ≤ 4000 ∧ ∀ p c, H p = none → Q (.ref p) (upd H p (SetO w p (fun j => decide (j ∈ ns)) c))
theorem cr_setL (hc : X.calm = true) : CallR X (.type "set") (rSetL X.w) := by
  intro pins s σ H vs us Q I r h
  obtain ⟨a, ns, rfl, hs, hz, q⟩ := h
  obtain ⟨its, rv, hl, _⟩ := I.list (SqL.of hs)
  rw [Vals.ref1 r]
  refine setOfList ns (I.ok.hd hc) hl.isList (ints_of_vals rv) (by unfold scanBound; omega) fun h' tk c R hcn k => ?_
  have hn : H s.heap.objs.size = none := I.hok.fresh (Nat.le_refl _)
  exact ⟨.ref _, upd H s.heap.objs.size (SetO X.w s.heap.objs.size (fun j => decide (j ∈ ns)) c), I.laid (t' := tk) k (Nat.le_refl _) (setO_new R), rfl, q _ _ hn⟩
def rSortedS (w : World) : List V → Hp → VK → Prop := fun vs H Q => ∃ (a : Addr) (S : Int → Bool) (n : Nat), vs = [V.ref a] ∧ H a = some (SetO w a S n) ∧
  ∀ (ns : List Int) (p : Addr), ns.Pairwise (· < ·) → (∀ k : Int, k ∈ ns ↔ S k = true) → H p = none → Q (.ref p) (upd H p (.lst (ns.map V.int)))
theorem cr_sortedS (hc : X.calm = true) : CallR X (.builtin "sorted") (rSortedS X.w) := by
  intro pins s σ H vs us Q I r h
  obtain ⟨a, S, n, rfl, ha, q⟩ := h
  have R := setO_get I ha
  have hnb : n < scanBound := by obtain ⟨o, es, ep, t, ho, hex, hd, g, nd, hm, hb, hf, hn, _⟩ := R; omega
  rw [Vals.ref1 r]
  refine sortedOfSet R (I.ok.hd hc) fun s' p out c ns k g o hp hg hi hs hm hl => ?_
  have hlen : (ns.map V.int).length ≤ sizeLine := by rw [List.length_map, hl]; exact fits_of_scanBound hnb
  have hn : H p = none := I.hok.fresh hp
  have J : Inv X pins σ (upd H p (.lst (ns.map V.int))) { s with heap := s'.heap, gens := s'.gens, drawn := s'.drawn, toks := s'.toks } :=
    I.call (ch := []) (Un.laid k hp hn) (I.hok.laid k hp ⟨hlen, out, c, vals_of_ints hi, hg⟩) (by rw [g]; exact I.bare) (fun _ z => nomatch z)
  have e : s' = { s with heap := s'.heap, gens := s'.gens, drawn := s'.drawn, toks := s'.toks } := by
    cases s'
    cases s
    cases o
    rfl
  rw [e]
  exact ⟨.ref p, _, J, rfl, q ns p hs hm hn⟩
variable {G : Gp} {E : XK} {e : Expr} {da : DTE} {p1 p2 pos q1 : Pos}
def dSortSet (t : DTE) : DTE := fun XX ρ Q => t XX ρ fun _ d => ∃ ns : List Int, d = .lst (ns.map .int) ∧ ns.length ≤ 4000 ∧ ∀ ns' : List Int, ns'.Pairwise (· < ·) → (∀ k : Int, k ∈ ns' ↔ k ∈ ns) → Q .fr (.lst (ns'.map .int))
theorem pd_sortset (hc : X.calm = true) (hg : Gl X "sorted") (hm : X.mg "sorted" = none) (hg2 : Gl X "set") (hm2 : X.mg "set" = none) (ha : PE X e (cE G E da)) (he : starEach [e] X.env = (false, eval e X.env) :: starEach [] X.env := by rfl)
    (he2 : starEach [Expr.Call (.Name "set" p2) [e] [] q1] X.env = (false, eval (.Call (.Name "set" p2) [e] [] q1) X.env) :: starEach [] X.env := by rfl) :
    PE X (.Call (.Name "sorted" p1) [.Call (.Name "set" p2) [e] [] q1] [] pos) (cE G E (dSortSet da)) := by
  have h1 := pe_callTy (pos := q1) (p := p2) (cr_setL hc) hg2 hm2 bt_set (pa_cons ha pa_nil he) (he := he)
  have h2 := pe_callB (pos := pos) (p := p1) (cr_sortedS hc) hg hm bt_sorted (pa_cons h1 pa_nil he2) (he := he2)
  refine pe_weak h2 fun σ H Qv h => ?_
  obtain ⟨H0, r, γ, ρ, XX, Q, env, q, hx, post⟩ := h
  refine cE_at (Now.start env) q hx fun v k d H1 ⟨ns, hd, hl, q1⟩ e1 N1 r1 => ?_
  subst hd
  obtain ⟨a, xs, rfl, _, h1, h2⟩ := rep_lst r1
  rw [h2.ints] at h1
  refine ⟨a, ns, rfl, h1, hl, fun p c hp => ?_⟩
  refine ⟨p, _, c, rfl, upd_same, fun ns' p2 hs hmem hp2 => ?_⟩
  have N2 := N1.step (SameR.new (o := SetO X.w p (fun j => decide (j ∈ ns)) c) hp) (N1.row.new hp)
  have N3 := N2.step (SameR.new (o := .lst (ns'.map V.int)) hp2) (N2.row.new hp2)
  refine post _ .fr _ _ (q1 ns' hs fun k => by rw [hmem k, decide_eq_true_eq]) N3.ex N3.row ?_
  unfold Rep
  refine ⟨p2, _, rfl, N2.ex.there _ hp2, upd_same, Reps.of_ints⟩
end
end HD

set_option Elab.async false
set_option linter.all false
set_option maxRecDepth 100000
/-! readings told: what simp unfolds, loops by their invariants -/
namespace HD
open PySem PySem.Spec PyProof.Rows L2
section
variable {XX : Exn → Prop} {DD : DEnds} {ρ : Rho} {Q : KQ}
@[simp] theorem s_dVar {i : Nat} : dVar i XX ρ Q = ∃ s, ρ[i]? = some s ∧ rdS s Q := rfl
@[simp] theorem s_rdSv {n d} : rdS (.v n d) Q = Q (nk n) d := rfl
@[simp] theorem s_rdSo {n ds} : rdS (.own n ds) Q = Q .an (.lst ds) := rfl
@[simp] theorem s_rdSe : rdS .e Q = False := rfl
@[simp] theorem s_dC {d} : dC d XX ρ Q = Q .fr d := rfl
@[simp] theorem s_dOp {rd da db} : dOp rd da db XX ρ Q = da XX ρ fun k1 d1 => db XX ρ fun k2 d2 => rd k1 d1 k2 d2 Q := rfl
@[simp] theorem s_dB {t Qb} : dB t XX ρ Qb = t XX ρ fun _ d => ∃ b, d = .bl b ∧ Qb b := rfl
@[simp] theorem s_dAnd {t u Qb} : dAnd t u XX ρ Qb = t XX ρ fun b => if b = true then u XX ρ Qb else Qb false := rfl
@[simp] theorem s_dOr {t u Qb} : dOr t u XX ρ Qb = t XX ρ fun b => if b = true then Qb true else u XX ρ Qb := rfl
@[simp] theorem s_dNot {t Qb} : dNot t XX ρ Qb = t XX ρ fun b => Qb (!b) := rfl
@[simp] theorem s_dAndV {da db} : dAndV da db XX ρ Q = da XX ρ fun _ d => ∃ b, d = .bl b ∧ if b = true then db XX ρ Q else Q .fr (.bl false) := rfl
@[simp] theorem s_dOrV {da db} : dOrV da db XX ρ Q = da XX ρ fun _ d => ∃ b, d = .bl b ∧ if b = true then Q .fr (.bl true) else db XX ρ Q := rfl
@[simp] theorem s_dNotV {da} : dNotV da XX ρ Q = da XX ρ fun _ d => ∃ b, d = .bl b ∧ Q .fr (.bl (!b)) := rfl
@[simp] theorem s_dIf {t da db} : dIf t da db XX ρ Q = t XX ρ fun b => if b = true then da XX ρ Q else db XX ρ Q := rfl
@[simp] theorem s_dChain {r1 r2 da db dc} : dChain r1 r2 da db dc XX ρ Q = da XX ρ fun k1 d1 => db XX ρ fun k2 d2 => r1 k1 d1 k2 d2 fun _ z => ∃ b, z = .bl b ∧
  if b = true then dc XX ρ fun k3 d3 => r2 k2 d2 k3 d3 Q else Q .fr (.bl false) := rfl
@[simp] theorem s_dChain3 {r1 r2 r3 da db dc dd} : dChain3 r1 r2 r3 da db dc dd XX ρ Q = da XX ρ fun k1 d1 => db XX ρ fun k2 d2 => r1 k1 d1 k2 d2 fun _ z => ∃ b, z = .bl b ∧
  if b = true then dc XX ρ fun k3 d3 => r2 k2 d2 k3 d3 fun _ z => ∃ b, z = .bl b ∧ if b = true then dd XX ρ fun k4 d4 => r3 k3 d3 k4 d4 Q else Q .fr (.bl false) else Q .fr (.bl false) := rfl
@[simp] theorem s_dNil {Qa} : dNil XX ρ Qa = Qa .fr [] := rfl
@[simp] theorem s_dCons {da dr Qa} : dCons da dr XX ρ Qa = da XX ρ fun k d => dr XX ρ fun k' ds => Qa (k.min k') (d :: ds) := rfl
@[simp] theorem s_dTup {t} : dTup t XX ρ Q = t XX ρ fun k ds => ds.length ≤ 100000 ∧ Q k (.tup ds) := rfl
@[simp] theorem s_up {k ds} : up k ds = if D.flats ds = true then .fr else k := rfl
@[simp] theorem s_dLst {t} : dLst t XX ρ Q = t XX ρ fun k ds => ds.length ≤ 100000 ∧ Q (up k ds) (.lst ds) := rfl
@[simp] theorem s_dNeg {da} : dNeg da XX ρ Q = da XX ρ fun _ d => ∃ i, d = .int i ∧ Q .fr (.int (-i)) := rfl
@[simp] theorem s_dCB {rd t} : dCB rd t XX ρ Q = t XX ρ fun k ds => rd k ds Q := rfl
@[simp] theorem s_dCall {fn t} : dCall fn t XX ρ Q = t XX ρ fun _ ds => fn (fun _ => False) ds (Q .fr) := rfl
@[simp] theorem s_dCallX {fn t} : dCallX fn t XX ρ Q = t XX ρ fun _ ds => fn XX ds (Q .fr) := rfl
@[simp] theorem s_dMeth {fn da t} : dMeth fn da t XX ρ Q = da XX ρ fun _ d => ∃ fs, d = .obj fs ∧ t XX ρ fun _ ds => fn (fun _ => False) (.obj fs :: ds) (Q .fr) := rfl
@[simp] theorem s_dFld {da} : dFld da XX ρ Q = da XX ρ fun k d => ∃ fs, d = .obj fs ∧ Q k (.fls fs) := rfl
@[simp] theorem s_dNo {Qo} : dNo XX ρ Qo = Qo none := rfl
@[simp] theorem s_dPt {t Qo} : dPt t XX ρ Qo = t XX ρ fun _ d => ∃ i, d = .int i ∧ Qo (some i) := rfl
@[simp] theorem s_dSl {te tl th} : dSl te tl th XX ρ Q = te XX ρ fun k d => tl XX ρ fun lo => th XX ρ fun hi => rdSl k d lo hi Q := rfl
@[simp] theorem s_dSortSet {t} : dSortSet t XX ρ Q = t XX ρ fun _ d => ∃ ns : List Int, d = .lst (ns.map .int) ∧ ns.length ≤ 4000 ∧ ∀ ns' : List Int, ns'.Pairwise (· < ·) → (∀ k : Int, k ∈ ns' ↔ k ∈ ns) → Q .fr (.lst (ns'.map .int)) := rfl
/-- operations -/
@[simp] theorem s_addI {k1 i k2 j} : rdAdd k1 (.int i) k2 (.int j) Q = Q .fr (.int (i + j)) := rfl
@[simp] theorem s_addS {k1 a k2 b} : rdAdd k1 (.str a) k2 (.str b) Q = (a.length + b.length ≤ 100000 ∧ Q .fr (.str (a ++ b))) := rfl
@[simp] theorem s_addT {k1 a k2 b} : rdAdd k1 (.tup a) k2 (.tup b) Q = (a.length + b.length ≤ 100000 ∧ Q (k1.min k2) (.tup (a ++ b))) := rfl
@[simp] theorem s_addL {k1 a k2 b} : rdAdd k1 (.lst a) k2 (.lst b) Q = (a.length + b.length ≤ 100000 ∧ Q (up (k1.min k2) (a ++ b)) (.lst (a ++ b))) := rfl
@[simp] theorem s_int {g C k1 i k2 j} : rdInt g C k1 (.int i) k2 (.int j) Q = (C i j ∧ Q .fr (g i j)) := rfl
@[simp] theorem s_mulI {k1 i k2 j} : rdMul k1 (.int i) k2 (.int j) Q = (((-(2 ^ 64) < i ∧ i < 2 ^ 64) ∨ (-(2 ^ 64) < j ∧ j < 2 ^ 64)) ∧ Q .fr (.int (i * j))) := rfl
@[simp] theorem s_mulL {k1 a k2 j} : rdMul k1 (.lst a) k2 (.int j) Q = (-(2 ^ 63) ≤ j ∧ j < 2 ^ 63 ∧ a.length * j.toNat ≤ 100000 ∧ Q (up k1 (List.replicate j.toNat a).flatten) (.lst (List.replicate j.toNat a).flatten)) := rfl
@[simp] theorem s_eq {k1 d1 k2 d2} : rdEq k1 d1 k2 d2 Q = (d1.cmp 60 = true ∧ d2.cmp 60 = true ∧ Q .fr (.bl (deq d1 d2))) := rfl
@[simp] theorem s_ne {k1 d1 k2 d2} : rdNe k1 d1 k2 d2 Q = (d1.cmp 60 = true ∧ d2.cmp 60 = true ∧ Q .fr (.bl (!deq d1 d2))) := rfl
@[simp] theorem s_isN {k1 d1 k2} : rdIs k1 d1 k2 .non Q = (d1.scl = true ∧ Q .fr (.bl (dEqS d1 .non)) ∨ d1.scl = false ∧ Q .fr (.bl false)) := rfl
@[simp] theorem s_isNot {k1 d1 k2 d2} : rdIsNot k1 d1 k2 d2 Q = rdIs k1 d1 k2 d2 fun _ d => ∃ b, d = .bl b ∧ Q .fr (.bl (!b)) := rfl
@[simp] theorem s_inL {neg k1 d k2 ds} : rdIn neg k1 d k2 (.lst ds) Q = (d.scl = true ∧ ds.all D.scl = true ∧ Q .fr (.bl (neg ^^ ds.any fun y => dEqS y d))) := rfl
@[simp] theorem s_inT {neg k1 d k2 ds} : rdIn neg k1 d k2 (.tup ds) Q = (d.scl = true ∧ ds.all D.scl = true ∧ Q .fr (.bl (neg ^^ ds.any fun y => dEqS y d))) := rfl
@[simp] theorem s_inS {neg k1 s k2 z} : rdIn neg k1 (.str s) k2 (.str z) Q = ∃ c, s = ⟨#[c]⟩ ∧ Q .fr (.bl (neg ^^ decide (c ∈ z.cps.toList))) := rfl
@[simp] theorem s_ixL {k1 ds k2 i} : rdIx k1 (.lst ds) k2 (.int i) Q = ∃ d, atI ds i = some d ∧ Q k1 d := rfl
@[simp] theorem s_ixT {k1 ds k2 i} : rdIx k1 (.tup ds) k2 (.int i) Q = ∃ d, atI ds i = some d ∧ Q k1 d := rfl
@[simp] theorem s_ixF {k1 ds k2 i} : rdIx k1 (.fls ds) k2 (.int i) Q = ∃ d, atI ds i = some d ∧ Q k1 d := rfl
@[simp] theorem s_ixS {k1 s k2 i} : rdIx k1 (.str s) k2 (.int i) Q = (s.length ≤ 100000 ∧ ∃ c, atI s.cps.toList i = some c ∧ Q .fr (.str ⟨#[c]⟩)) := rfl
@[simp] theorem s_slL {k ds lo hi} : rdSl k (.lst ds) lo hi Q = Q (up k (cutD ds lo hi)) (.lst (cutD ds lo hi)) := rfl
@[simp] theorem s_slT {k ds lo hi} : rdSl k (.tup ds) lo hi Q = Q k (.tup (cutD ds lo hi)) := rfl
@[simp] theorem s_slS {k s lo hi} : rdSl k (.str s) lo hi Q = (s.length ≤ 100000 ∧ Q .fr (.str (cutS s lo hi))) := rfl
@[simp] theorem s_lenL {k ds} : rdLen k [.lst ds] Q = Q .fr (.int ds.length) := rfl
@[simp] theorem s_lenT {k ds} : rdLen k [.tup ds] Q = Q .fr (.int ds.length) := rfl
@[simp] theorem s_lenF {k ds} : rdLen k [.fls ds] Q = Q .fr (.int ds.length) := rfl
@[simp] theorem s_lenS {k s} : rdLen k [.str s] Q = (s.length ≤ 100000 ∧ Q .fr (.int s.length)) := rfl
@[simp] theorem s_listL {k ds} : rdList k [.lst ds] Q = Q (up k ds) (.lst ds) := rfl
@[simp] theorem s_listF {k ds} : rdList k [.fls ds] Q = Q (up k ds) (.lst ds) := rfl
@[simp] theorem s_listT {k ds} : rdList k [.tup ds] Q = Q (up k ds) (.lst ds) := rfl
@[simp] theorem s_tupL {k ds} : rdTuple k [.lst ds] Q = Q k (.tup ds) := rfl
@[simp] theorem s_tupT {k ds} : rdTuple k [.tup ds] Q = Q k (.tup ds) := rfl
@[simp] theorem s_intI {k i} : rdIntC k [.int i] Q = Q .fr (.int i) := rfl
@[simp] theorem s_intB {k b} : rdIntC k [.bl b] Q = Q .fr (.int (if b then 1 else 0)) := rfl
@[simp] theorem s_strI {k i} : rdStrC k [.int i] Q = (i.natAbs.log2 < 1920 ∧ Q .fr (.str (toString i))) := rfl
@[simp] theorem s_sum {k ds} : rdSumC k [.lst ds] Q = ∃ ns : List Int, ds = ns.map D.int ∧ Q .fr (.int ns.sum) := rfl
@[simp] theorem s_min2 {k i j} : rdMin k [.int i, .int j] Q = Q .fr (.int (if j < i then j else i)) := rfl
@[simp] theorem s_minL {k ds} : rdMin k [.lst ds] Q = ∃ ns : List Int, ds = ns.map D.int ∧ 0 < ns.length ∧ ∀ m, m ∈ ns → (∀ y, y ∈ ns → m ≤ y) → Q .fr (.int m) := rfl
@[simp] theorem s_max2 {k i j} : rdMax k [.int i, .int j] Q = Q .fr (.int (if j > i then j else i)) := rfl
@[simp] theorem s_maxL {k ds} : rdMax k [.lst ds] Q = ∃ ns : List Int, ds = ns.map D.int ∧ 0 < ns.length ∧ ∀ m, m ∈ ns → (∀ y, y ∈ ns → y ≤ m) → Q .fr (.int m) := rfl
/-- iterables -/
@[simp] theorem s_diSq {te Qi} : diSq te XX ρ Qi = te XX ρ fun k d => ∃ ds, seqD d = some ds ∧ Qi k ds := rfl
@[simp] theorem s_seqL {ds} : seqD (.lst ds) = some ds := rfl
@[simp] theorem s_seqT {ds} : seqD (.tup ds) = some ds := rfl
@[simp] theorem s_seqS {s} : seqD (.str s) = some (s.cps.toList.map sgD) := rfl
@[simp] theorem s_rg1 {t Qi} : diRg1 t XX ρ Qi = t XX ρ fun _ ds => ∃ j, ds = [.int j] ∧ -(2 ^ 62) ≤ j ∧ j < 2 ^ 62 ∧ Qi .fr (rgD 0 j.toNat) := rfl
def rg2R (ds : List D) (Qi : Kd → List D → Prop) : Prop := ∃ i j, ds = [.int i, .int j] ∧ (-(2 ^ 62) ≤ i ∧ i < 2 ^ 62 ∧ -(2 ^ 62) ≤ j ∧ j < 2 ^ 62) ∧ Qi .fr (rgD i (j - i).toNat)
@[simp] theorem s_rg2 {t Qi} : diRg2 t XX ρ Qi = t XX ρ fun _ ds => rg2R ds Qi := rfl
@[simp] theorem s_rg2R {i j : Int} {Qi} : rg2R [.int i, .int j] Qi = ((-(2 ^ 62) ≤ i ∧ i < 2 ^ 62 ∧ -(2 ^ 62) ≤ j ∧ j < 2 ^ 62) ∧ Qi .fr (rgD i (j - i).toNat)) := propext ⟨fun ⟨_, _, e, h⟩ => by cases e; exact h, fun h => ⟨_, _, rfl, h⟩⟩
def zipR (k : Kd) (ds : List D) (Qi : Kd → List D → Prop) : Prop := ∃ as bs, ds = [.lst as, .lst bs] ∧ Qi k (zpD as bs)
@[simp] theorem s_zip {t Qi} : diZip t XX ρ Qi = t XX ρ fun k ds => zipR k ds Qi := rfl
@[simp] theorem s_zipR {k as bs} {Qi} : zipR k [.lst as, .lst bs] Qi = Qi k (zpD as bs) := propext ⟨fun ⟨_, _, e, h⟩ => by cases e; exact h, fun h => ⟨_, _, rfl, h⟩⟩
@[simp] theorem s_rev {t Qi} : diRev t XX ρ Qi = t XX ρ fun k ds => ∃ as, ds = [.lst as] ∧ Qi k as.reverse := rfl
/-- statements -/
@[simp] theorem s_dNext : dNext XX DD ρ = DD.nx ρ := rfl
@[simp] theorem s_dBrk : dBrk XX DD ρ = DD.bk ρ := rfl
@[simp] theorem s_dCnt : dCnt XX DD ρ = DD.ct ρ := rfl
@[simp] theorem s_dSeq {t u} : dSeq t u XX DD ρ = t XX { DD with nx := u XX DD } ρ := rfl
@[simp] theorem s_dDrop {te} : dDrop te XX DD ρ = te XX ρ fun _ _ => DD.nx ρ := rfl
@[simp] theorem s_dRet {te} : dRet te XX DD ρ = te XX ρ fun k d => out k d ∧ DD.rt d := rfl
@[simp] theorem s_dRetV {i} : dRetV i XX DD ρ = ∃ ds, ρ[i]? = some (.own true ds) ∧ DD.rt (.lst ds) := rfl
@[simp] theorem s_dIfS {c t u} : dIfS c t u XX DD ρ = c XX ρ fun b => if b = true then t XX DD ρ else u XX DD ρ := rfl
@[simp] theorem s_dRel {i t} : dRel i t XX DD ρ = ∃ n ds, ρ[i]? = some (.own n ds) ∧ t XX DD (ρ.set i (.v n (.lst ds))) := rfl
@[simp] theorem s_dgName {i n d Qs} : dgName i n d ρ Qs = Qs (ρ.set i (.v n d)) := rfl
@[simp] theorem s_dgNil {n ds Qs} : dgNil n ds ρ Qs = (ds = [] ∧ Qs ρ) := rfl
@[simp] theorem s_dgCons {g gs n d r Qs} : dgCons g gs n (d :: r) ρ Qs = g n d ρ fun ρ' => gs n r ρ' Qs := propext ⟨fun ⟨_, _, e, h⟩ => by cases e; exact h, fun h => ⟨_, _, rfl, h⟩⟩
@[simp] theorem s_dgTup {m gs n ds Qs} : dgTup m gs n (.tup ds) ρ Qs = (ds.length = m ∧ gs n ds ρ Qs) := propext ⟨fun ⟨_, e, h⟩ => by cases e; exact h, fun h => ⟨_, rfl, h⟩⟩
@[simp] theorem s_dAsg {te g} : dAsg te g XX DD ρ = te XX ρ fun k d => ∃ n, stn k d = some n ∧ g n d ρ DD.nx := rfl
@[simp] theorem s_dAsgO {i te} : dAsgO i te XX DD ρ = te XX ρ fun k d => k = .fr ∧ ∃ ds, d = .lst ds ∧ DD.nx (ρ.set i (.own true ds)) := rfl
@[simp] theorem s_dApp {i te} : dApp i te XX DD ρ = ∃ n ds, ρ[i]? = some (.own n ds) ∧ ds.length < 100000 ∧ te XX ρ fun k d => ∃ m, stn k d = some m ∧ DD.nx (ρ.set i (.own (n && m) (ds ++ [d]))) := rfl
@[simp] theorem s_dSub {i te tj} : dSub i te tj XX DD ρ = te XX ρ fun k d => ∃ n ds, ρ[i]? = some (.own n ds) ∧ tj XX ρ fun _ dj => ∃ j, dj = .int j ∧ ∃ m j', stn k d = some m ∧ ixN ds.length j = some j' ∧ DD.nx (ρ.set i (.own (n && m) (ds.set j' d))) := rfl
end
/-! kinds -/
@[simp] theorem s_fr {d} : stn .fr d = some true := rfl
@[simp] theorem s_nw {d} : stn .nw d = some true := rfl
@[simp] theorem s_sf {d} : stn .sf d = some d.flat := rfl
@[simp] theorem s_an {d} : stn .an d = if d.flat then some true else none := rfl
@[simp] theorem s_nkt : nk true = .nw := rfl
@[simp] theorem s_nkf : nk false = .sf := rfl
@[simp] theorem m_ff : Kd.min .fr .fr = .fr := rfl
@[simp] theorem m_f {k} : Kd.min .fr k = k := by cases k <;> rfl
@[simp] theorem m_f' {k} : Kd.min k .fr = k := by cases k <;> rfl
@[simp] theorem m_a {k} : Kd.min .an k = .an := rfl
@[simp] theorem m_a' {k} : Kd.min k .an = .an := by cases k <;> rfl
@[simp] theorem m_nn : Kd.min .nw .nw = .nw := rfl
@[simp] theorem m_ns : Kd.min .nw .sf = .sf := rfl
@[simp] theorem m_sn : Kd.min .sf .nw = .sf := rfl
@[simp] theorem m_ss : Kd.min .sf .sf = .sf := rfl
@[simp] theorem o_fr {d} : out .fr d = True := rfl
@[simp] theorem o_nw {d} : out .nw d = True := rfl
@[simp] theorem o_sf {d} : out .sf d = (d.flat = true) := rfl
@[simp] theorem o_an {d} : out .an d = (d.flat = true) := rfl
@[simp] theorem f_non : D.flat .non = true := rfl
@[simp] theorem f_bl {b} : D.flat (.bl b) = true := rfl
@[simp] theorem f_int {b} : D.flat (.int b) = true := rfl
@[simp] theorem f_str {b} : D.flat (.str b) = true := rfl
@[simp] theorem f_row : D.flat .row = true := rfl
@[simp] theorem f_dic {o ks ds} : D.flat (.dic o ks ds) = D.flats ds := rfl
@[simp] theorem f_tup {ds} : D.flat (.tup ds) = D.flats ds := by unfold D.flat; rfl
@[simp] theorem f_lst {ds} : D.flat (.lst ds) = false := by unfold D.flat; rfl
@[simp] theorem f_obj {ds} : D.flat (.obj ds) = D.flats ds := rfl
@[simp] theorem f_fls {ds} : D.flat (.fls ds) = D.flats ds := rfl
@[simp] theorem fs_nil : D.flats [] = true := by unfold D.flats; rfl
@[simp] theorem fs_cons {d ds} : D.flats (d :: ds) = (d.flat && D.flats ds) := by conv => lhs; unfold D.flats
theorem flats_iff : ∀ {ds : List D}, D.flats ds = true ↔ ∀ d ∈ ds, d.flat = true
  | [] => by simp
  | d :: ds => by simp [flats_iff (ds := ds)]
@[simp] theorem fs_ints {l : List Int} : D.flats (l.map D.int) = true := flats_map (fun _ => rfl) l
@[simp] theorem fs_strs {l : List Str} : D.flats (l.map D.str) = true := flats_map (fun _ => rfl) l
@[simp] theorem fs_app {a b : List D} : D.flats (a ++ b) = (D.flats a && D.flats b) := by
  induction a with
  | nil => simp
  | cons d ds ih => simp [ih, Bool.and_assoc]
@[simp] theorem k_fr : kn .fr = some true := rfl
@[simp] theorem k_nw : kn .nw = some true := rfl
@[simp] theorem k_sf : kn .sf = some false := rfl
@[simp] theorem k_an : kn .an = none := rfl
/-! scalars -/
@[simp] theorem c_non {n} : D.cmp n .non = true := by unfold D.cmp; rfl
@[simp] theorem c_bl {n b} : D.cmp n (.bl b) = true := by unfold D.cmp; rfl
@[simp] theorem c_int {n b} : D.cmp n (.int b) = true := by unfold D.cmp; rfl
@[simp] theorem c_str {n b} : D.cmp n (.str b) = PyData.strOk b := by unfold D.cmp; rfl
@[simp] theorem c_tup {n ds} : D.cmp (n + 1) (.tup ds) = D.cmps n ds := by conv => lhs; unfold D.cmp
@[simp] theorem c_lst {n ds} : D.cmp (n + 1) (.lst ds) = D.cmps n ds := by conv => lhs; unfold D.cmp
@[simp] theorem c_tup60 {ds} : D.cmp 60 (.tup ds) = D.cmps 59 ds := by conv => lhs; unfold D.cmp
@[simp] theorem c_lst60 {ds} : D.cmp 60 (.lst ds) = D.cmps 59 ds := by conv => lhs; unfold D.cmp
@[simp] theorem c_tup59 {ds} : D.cmp 59 (.tup ds) = D.cmps 58 ds := by conv => lhs; unfold D.cmp
@[simp] theorem c_lst59 {ds} : D.cmp 59 (.lst ds) = D.cmps 58 ds := by conv => lhs; unfold D.cmp
@[simp] theorem c_tup58 {ds} : D.cmp 58 (.tup ds) = D.cmps 57 ds := by conv => lhs; unfold D.cmp
@[simp] theorem c_lst58 {ds} : D.cmp 58 (.lst ds) = D.cmps 57 ds := by conv => lhs; unfold D.cmp
@[simp] theorem cs_nil {n} : D.cmps n [] = true := by unfold D.cmps; rfl
@[simp] theorem cs_cons {n d ds} : D.cmps n (d :: ds) = (d.cmp n && D.cmps n ds) := by conv => lhs; unfold D.cmps
@[simp] theorem cs_ints {n} {l : List Int} : D.cmps n (l.map D.int) = true := cmps_map (fun _ => c_int) l
theorem cmps_iff {n : Nat} : ∀ {ds : List D}, D.cmps n ds = true ↔ ∀ d ∈ ds, d.cmp n = true
  | [] => by simp
  | d :: ds => by simp [cmps_iff (ds := ds)]
@[simp] theorem cs_app {n} {a b : List D} : D.cmps n (a ++ b) = (D.cmps n a && D.cmps n b) := by
  induction a with
  | nil => simp
  | cons d ds ih => simp [ih, Bool.and_assoc]
@[simp] theorem sc_int {i} : D.scl (.int i) = true := rfl
@[simp] theorem sc_str {i} : D.scl (.str i) = true := rfl
@[simp] theorem sc_bl {i} : D.scl (.bl i) = true := rfl
@[simp] theorem sc_non : D.scl .non = true := rfl
@[simp] theorem sc_tup {i} : D.scl (.tup i) = false := rfl
@[simp] theorem sc_lst {i} : D.scl (.lst i) = false := rfl
@[simp] theorem sc_obj {i} : D.scl (.obj i) = false := rfl
/-! equality -/
@[simp] theorem e_ii {i j} : deq (.int i) (.int j) = decide (i = j) := by
  unfold deq D.py PyData.eqv
  first | rfl | (rw [Bool.eq_iff_iff]; simp)
@[simp] theorem e_ss {i j} : deq (.str i) (.str j) = decide (i = j) := by
  unfold deq D.py PyData.eqv
  first | rfl | (rw [Bool.eq_iff_iff]; simp)
end HD

set_option Elab.async false
set_option linter.all false
set_option maxRecDepth 100000
namespace HD
open PySem PySem.Spec PyProof.Rows L2
/-! equality of data -/
def deqs (a b : List D) : Bool := PyData.eqvAll (D.pys a) (D.pys b)
@[simp] theorem pys_nil : D.pys [] = [] := by unfold D.pys; rfl
@[simp] theorem pys_cons {d ds} : D.pys (d :: ds) = d.py :: D.pys ds := by conv => lhs; unfold D.pys
@[simp] theorem e_ll {i j} : deq (.lst i) (.lst j) = deqs i j := by unfold deq D.py deqs; simp only [PyData.eqv]
@[simp] theorem e_tt {i j} : deq (.tup i) (.tup j) = deqs i j := by unfold deq D.py deqs; simp only [PyData.eqv]
@[simp] theorem e_bb {i j} : deq (.bl i) (.bl j) = decide (i = j) := by unfold deq D.py; simp only [PyData.eqv]; cases i <;> cases j <;> rfl
@[simp] theorem e_nn : deq .non .non = true := by unfold deq D.py; simp only [PyData.eqv]
@[simp] theorem e_nl {j} : deq .non (.lst j) = false := by unfold deq D.py; simp only [PyData.eqv]
@[simp] theorem e_ln {j} : deq (.lst j) .non = false := by unfold deq D.py; simp only [PyData.eqv]
@[simp] theorem e_ni {j} : deq .non (.int j) = false := by unfold deq D.py; simp only [PyData.eqv]
@[simp] theorem e_in {j} : deq (.int j) .non = false := by unfold deq D.py; simp only [PyData.eqv]
@[simp] theorem es_nn : deqs [] [] = true := by unfold deqs; simp [PyData.eqvAll]
@[simp] theorem es_nc {d ds} : deqs [] (d :: ds) = false := by unfold deqs; simp [PyData.eqvAll]
@[simp] theorem es_cn {d ds} : deqs (d :: ds) [] = false := by unfold deqs; simp [PyData.eqvAll]
@[simp] theorem es_cc {d ds e es} : deqs (d :: ds) (e :: es) = (deq d e && deqs ds es) := by unfold deqs deq; simp [PyData.eqvAll]
theorem es_map {α : Type} [DecidableEq α] {f : α → D} (h : ∀ a b, deq (f a) (f b) = decide (a = b)) : ∀ a b : List α, deqs (a.map f) (b.map f) = decide (a = b)
  | [], [] => by simp
  | [], b :: bs => by simp
  | a :: as, [] => by simp
  | a :: as, b :: bs => by
    rw [List.map_cons, List.map_cons, es_cc, h, es_map h as bs, Bool.eq_iff_iff]
    simp
@[simp] theorem es_int {a b : List Int} : deqs (a.map D.int) (b.map D.int) = decide (a = b) := es_map (fun _ _ => e_ii) a b
@[simp] theorem es_str {a b : List Str} : deqs (a.map D.str) (b.map D.str) = decide (a = b) := es_map (fun _ _ => e_ss) a b
@[simp] theorem es_map_nil {α : Type} {f : α → D} {a : List α} : deqs (a.map f) [] = decide (a = []) := by cases a <;> simp
@[simp] theorem es_nil_map {α : Type} {f : α → D} {a : List α} : deqs [] (a.map f) = decide (a = []) := by cases a <;> simp
theorem eqD_nil {a : List D} : deqs a [] = decide (a = []) := by cases a <;> simp
@[simp] theorem mapint_inj {a b : List Int} : a.map D.int = b.map D.int ↔ a = b :=
  ⟨fun h => by
    have := congrArg (List.map fun d : D => match d with | .int i => i | _ => 0) h
    rw [List.map_map, List.map_map] at this
    simpa [Function.comp_def] using this, fun h => by rw [h]⟩
@[simp] theorem mapstr_inj {a b : List Str} : a.map D.str = b.map D.str ↔ a = b :=
  ⟨fun h => by
    have := congrArg (List.map fun d : D => match d with | .str i => i | _ => ⟨#[]⟩) h
    rw [List.map_map, List.map_map] at this
    simpa [Function.comp_def] using this, fun h => by rw [h]⟩
theorem map_inj' {α : Type} {f : α → D} (hf : ∀ x y, f x = f y → x = y) : ∀ {a b : List α}, a.map f = b.map f ↔ a = b
  | [], [] => by simp
  | [], _ :: _ => by simp
  | _ :: _, [] => by simp
  | x :: a, y :: b => by
    simp only [List.map_cons, List.cons.injEq, map_inj' hf (a := a) (b := b)]
    exact ⟨fun ⟨h1, h2⟩ => ⟨hf _ _ h1, h2⟩, fun ⟨h1, h2⟩ => ⟨by rw [h1], h2⟩⟩
/-! forgetting -/
@[simp] theorem fg_nil : Fgt [] [] = True := by simp [Fgt.nil]
@[simp] theorem fg_e {s ρ ρ'} : Fgt (s :: ρ) (.e :: ρ') ↔ Fgt ρ ρ' := ⟨fun h => by cases h <;> assumption, .drop⟩
@[simp] theorem fg_v {s ρ n d ρ'} : Fgt (s :: ρ) (.v n d :: ρ') ↔ s = .v n d ∧ Fgt ρ ρ' := ⟨fun h => by cases h; exact ⟨rfl, by assumption⟩, fun ⟨h1, h2⟩ => by rw [h1]; exact .keep h2⟩
@[simp] theorem fg_is {s ρ d ρ'} : Fgt (s :: ρ) (.is d :: ρ') ↔ s = .is d ∧ Fgt ρ ρ' := ⟨fun h => by cases h; exact ⟨rfl, by assumption⟩, fun ⟨h1, h2⟩ => by rw [h1]; exact .keep h2⟩
@[simp] theorem fg_own {s ρ n d ρ'} : Fgt (s :: ρ) (.own n d :: ρ') ↔ s = .own n d ∧ Fgt ρ ρ' := ⟨fun h => by cases h; exact ⟨rfl, by assumption⟩, fun ⟨h1, h2⟩ => by rw [h1]; exact .keep h2⟩
@[simp] theorem fg_od {s ρ n d ρ'} : Fgt (s :: ρ) (.od n d :: ρ') ↔ s = .od n d ∧ Fgt ρ ρ' := ⟨fun h => by cases h; exact ⟨rfl, by assumption⟩, fun ⟨h1, h2⟩ => by rw [h1]; exact .keep h2⟩
@[simp] theorem fg_eq {ρ ρ' : Rho} : fg (fun x => x = ρ') ρ ↔ Fgt ρ ρ' := ⟨fun ⟨x, h, e⟩ => by rw [← e]; exact h, fun h => ⟨ρ', h, rfl⟩⟩
theorem fg_ex {α : Type} {f : α → Rho} {P : α → Prop} {ρ : Rho} : fg (fun x => ∃ a, x = f a ∧ P a) ρ ↔ ∃ a, Fgt ρ (f a) ∧ P a := ⟨fun ⟨x, h, a, e, p⟩ => ⟨a, by rw [← e]; exact h, p⟩, fun ⟨a, h, p⟩ => ⟨f a, h, a, rfl, p⟩⟩
theorem fg_ex' {α : Type} {f : α → Rho} {P : α → Prop} : fg (fun x => ∃ a, x = f a ∧ P a) = fun ρ => ∃ a, Fgt ρ (f a) ∧ P a := funext fun _ => propext fg_ex
/-! loops -/
section
variable {XX : Exn → Prop} {DD : DEnds} {ρ : Rho} {it : DTI} {g : DTG} {t : DTS}
theorem at_cut {α : Type} {l : List α} {i : Nat} {a : α} (q : l[i]? = some a) : l = l.take i ++ a :: l.drop (i + 1) ∧ l.take (i + 1) = l.take i ++ [a] := by
  have e := (List.getElem?_eq_some_iff.mp q).2
  exact ⟨by rw [← e, List.getElem_cons_drop, List.take_append_drop], by rw [List.take_add_one, q]; rfl⟩
theorem for_go (h : it XX ρ (fun k ds => dFor (fun _ _ Qi => Qi k ds) g t XX DD ρ)) : dFor it g t XX DD ρ := h
/-- over a list, told by what has been walked -/
theorem for_list {α : Type} (l : List α) (f : α → D) {k : Kd} {n : Bool} (I : List α → Rho → Prop) (hk : kn k = some n) (hit : ∀ Q : Kd → List D → Prop, Q k (l.map f) → it XX ρ Q) (h0 : I [] ρ)
    (hs : ∀ p a q ρ', l = p ++ a :: q → I p ρ' → g n (f a) ρ' fun ρ2 => t XX { DD with nx := fg (I (p ++ [a])), ct := fg (I (p ++ [a])), bk := DD.nx } ρ2) (hd : ∀ ρ', I l ρ' → DD.nx ρ') : dFor it g t XX DD ρ := by
  refine hit _ ⟨n, hk, fun i ρ' => I (l.take i) ρ', h0, fun i d ρ' hi hI => ?_, fun ρ' hI => hd ρ' ?_⟩
  · rw [List.getElem?_map] at hi
    cases q : l[i]? with
    | none => rw [q] at hi; cases hi
    | some a =>
      rw [q] at hi
      cases hi
      obtain ⟨e1, e2⟩ := at_cut q
      have h := hs _ a _ ρ' e1 hI
      rw [← e2] at h
      exact h
  · rw [List.length_map] at hI
    rw [List.take_length] at hI
    exact hI
/-- over a range -/
theorem for_range (lo : Int) (m : Nat) (I : Nat → Rho → Prop) (hit : ∀ Q : Kd → List D → Prop, Q .fr (rgD lo m) → it XX ρ Q) (h0 : I 0 ρ)
    (hs : ∀ i ρ', i < m → I i ρ' → g true (.int (lo + (i : Int))) ρ' fun ρ2 => t XX { DD with nx := fg (I (i + 1)), ct := fg (I (i + 1)), bk := DD.nx } ρ2) (hd : ∀ ρ', I m ρ' → DD.nx ρ') : dFor it g t XX DD ρ := by
  refine hit _ ⟨true, rfl, I, h0, fun i d ρ' hi hI => ?_, fun ρ' hI => hd ρ' (by rw [rgD_len] at hI; exact hI)⟩
  obtain ⟨h1, rfl⟩ := rgD_get hi
  exact hs i ρ' h1 hI
/-- .. whose names' slots are told -/
theorem for_listS {α β : Type} (l : List α) (f : α → D) {k : Kd} {n : Bool} (st : β → Rho) (R : List α → β → Prop) (b0 : β) (hk : kn k = some n) (hit : ∀ Q : Kd → List D → Prop, Q k (l.map f) → it XX ρ Q) (e0 : ρ = st b0) (h0 : R [] b0)
    (hs : ∀ p a q b, l = p ++ a :: q → R p b → g n (f a) (st b) fun ρ2 => t XX { DD with nx := fun x => ∃ b', Fgt x (st b') ∧ R (p ++ [a]) b', ct := fun x => ∃ b', Fgt x (st b') ∧ R (p ++ [a]) b', bk := DD.nx } ρ2)
    (hd : ∀ b, R l b → DD.nx (st b)) : dFor it g t XX DD ρ := by
  refine for_list l f (fun p x => ∃ b, x = st b ∧ R p b) hk hit ⟨b0, e0, h0⟩ (fun p a q ρ' e h => ?_) fun ρ' h => ?_
  · obtain ⟨b, rfl, h⟩ := h
    have := hs p a q b e h
    simp only [fg_ex']
    exact this
  · obtain ⟨b, rfl, h⟩ := h
    exact hd b h
theorem for_rangeS {β : Type} (lo : Int) (m : Nat) (st : β → Rho) (R : Nat → β → Prop) (b0 : β) (hit : ∀ Q : Kd → List D → Prop, Q .fr (rgD lo m) → it XX ρ Q) (e0 : ρ = st b0) (h0 : R 0 b0)
    (hs : ∀ i b, i < m → R i b → g true (.int (lo + (i : Int))) (st b) fun ρ2 => t XX { DD with nx := fun x => ∃ b', Fgt x (st b') ∧ R (i + 1) b', ct := fun x => ∃ b', Fgt x (st b') ∧ R (i + 1) b', bk := DD.nx } ρ2)
    (hd : ∀ b, R m b → DD.nx (st b)) : dFor it g t XX DD ρ := by
  refine for_range lo m (fun i x => ∃ b, x = st b ∧ R i b) hit ⟨b0, e0, h0⟩ (fun i ρ' e h => ?_) fun ρ' h => ?_
  · obtain ⟨b, rfl, h⟩ := h
    have := hs i b e h
    simp only [fg_ex']
    exact this
  · obtain ⟨b, rfl, h⟩ := h
    exact hd b h
/-! comprehensions -/
variable {Q : KQ} {te : DTE} {tt : DTT} {vs : List Nat}
theorem lc_inv {α : Type} (l : List α) (f : α → D) {k : Kd} {n : Bool} (κ : Kd) (I : List α → List D → Prop) (hk : kn k = some n) (hit : ∀ Qi : Kd → List D → Prop, Qi k (l.map f) → it XX ρ Qi) (hl : l.length ≤ 100000) (hno : noOwn ρ vs = true) (hκ : κ ≠ .an)
    (h0 : I [] []) (hs : ∀ p a q acc, l = p ++ a :: q → I p acc → g n (f a) (wipeR ρ vs) fun ρ2 => tt XX ρ2 fun b => if b = true then te XX ρ2 fun k' y => kle κ k' y ∧ I (p ++ [a]) (acc ++ [y]) else I (p ++ [a]) acc)
    (hd : ∀ acc, I l acc → Q κ (.lst acc)) : dLc it g tt te vs XX ρ Q := by
  refine hit _ ⟨by rw [List.length_map]; exact hl, hno, n, hk, κ, hκ, fun i acc => I (l.take i) acc, h0, fun i d acc hi hI => ?_, fun acc hI => hd acc ?_⟩
  · rw [List.getElem?_map] at hi
    cases q : l[i]? with
    | none => rw [q] at hi; cases hi
    | some a =>
      rw [q] at hi
      cases hi
      obtain ⟨e1, e2⟩ := at_cut q
      have h := hs _ a _ acc e1 hI
      rw [← e2] at h
      exact h
  · rw [List.length_map] at hI
    rw [List.take_length] at hI
    exact hI
/-- what is walked is found first -/
theorem lc_go (h : it XX ρ (fun k ds => dLc (fun _ _ Qi => Qi k ds) g tt te vs XX ρ Q)) : dLc it g tt te vs XX ρ Q := h
/-- [F a for a in l] -/
theorem lc_map {α : Type} (l : List α) (f : α → D) {k : Kd} {n : Bool} (κ : Kd) (F : α → D) (hk : kn k = some n) (hit : ∀ Qi : Kd → List D → Prop, Qi k (l.map f) → it XX ρ Qi) (hl : l.length ≤ 100000) (hno : noOwn ρ vs = true) (hκ : κ ≠ .an)
    (hs : ∀ a ∈ l, ∀ K : KQ, (∀ k', kle κ k' (F a) → K k' (F a)) → g n (f a) (wipeR ρ vs) fun ρ2 => te XX ρ2 K)
    (hd : Q κ (.lst (l.map F))) : dLc it g dYes te vs XX ρ Q := by
  refine lc_inv l f κ (fun p acc => acc = p.map F) hk hit hl hno hκ rfl (fun p a q acc e h => ?_) fun acc h => by rw [h]; exact hd
  subst h
  exact hs a (by rw [e]; simp) _ fun k' hk => ⟨hk, by simp⟩
/-- [F a for a in l if P a] -/
theorem lc_fil {α : Type} (l : List α) (f : α → D) {k : Kd} {n : Bool} (κ : Kd) (P : α → Bool) (F : α → D) (hk : kn k = some n) (hit : ∀ Qi : Kd → List D → Prop, Qi k (l.map f) → it XX ρ Qi) (hl : l.length ≤ 100000) (hno : noOwn ρ vs = true) (hκ : κ ≠ .an)
    (hs : ∀ a ∈ l, ∀ (K : KQ) (K0 : Prop), (P a = true → ∀ k', kle κ k' (F a) → K k' (F a)) → (P a = false → K0) → g n (f a) (wipeR ρ vs) fun ρ2 => tt XX ρ2 fun b => if b = true then te XX ρ2 K else K0)
    (hd : Q κ (.lst ((l.filter P).map F))) : dLc it g tt te vs XX ρ Q := by
  refine lc_inv l f κ (fun p acc => acc = (p.filter P).map F) hk hit hl hno hκ rfl (fun p a q acc e h => ?_) fun acc h => by rw [h]; exact hd
  subst h
  exact hs a (by rw [e]; simp) _ _ (fun hp k' hk => ⟨hk, by simp [List.filter_append, hp]⟩) fun hp => by simp [List.filter_append, hp]
/-- .. where each item is one of some -/
theorem lc_rel {α : Type} (l : List α) (f : α → D) {k : Kd} {n : Bool} (κ : Kd) (R : α → D → Prop) (hk : kn k = some n) (hit : ∀ Qi : Kd → List D → Prop, Qi k (l.map f) → it XX ρ Qi) (hl : l.length ≤ 100000) (hno : noOwn ρ vs = true) (hκ : κ ≠ .an)
    (hs : ∀ a ∈ l, ∀ K : KQ, (∀ k' y, kle κ k' y → R a y → K k' y) → g n (f a) (wipeR ρ vs) fun ρ2 => te XX ρ2 K)
    (hd : ∀ ys : List D, ys.length = l.length → (∀ (i : Nat) a y, l[i]? = some a → ys[i]? = some y → R a y) → Q κ (.lst ys)) : dLc it g dYes te vs XX ρ Q := by
  refine lc_inv l f κ (fun p acc => acc.length = p.length ∧ ∀ (j : Nat) a y, p[j]? = some a → acc[j]? = some y → R a y) hk hit hl hno hκ ⟨rfl, fun j a y h => by simp at h⟩ (fun p a q acc e h => ?_) fun acc h => hd acc h.1 h.2
  refine hs a (by rw [e]; simp) _ fun k' y hk hR => ⟨hk, by simp [h.1], fun j b z h1 h2 => ?_⟩
  by_cases hj : j < p.length
  · rw [List.getElem?_append_left hj] at h1
    rw [List.getElem?_append_left (by omega)] at h2
    exact h.2 j b z h1 h2
  · have hj' : j = p.length := by
      have := (List.getElem?_eq_some_iff.mp h1).1
      simp at this
      omega
    subst hj'
    rw [List.getElem?_append_right (Nat.le_refl _)] at h1
    rw [List.getElem?_append_right (by omega)] at h2
    simp [h.1] at h1 h2
    rw [← h1, ← h2]
    exact hR
/-- over a range -/
theorem rgD_map {lo : Int} {n : Nat} : rgD lo n = (List.range n).map fun (i : Nat) => D.int (lo + (i : Int)) := rfl
end
end HD

set_option Elab.async false
set_option linter.all false
set_option maxRecDepth 100000
set_option maxHeartbeats 1000000
namespace HD
open PySem PySem.Spec PyProof.Rows L2
section
variable {G : Gp} {E : XK} {H0 H H' Hs : Hp} {r : Option Addr} {M P : Addr → Prop} {X : Cx} {σ : L2.St} {ρ : Rho} {γ : List Gh} {XX : Exn → Prop}
/-- a statement that is not come to -/
def dNever : DTS := fun _ _ _ => False
@[simp] theorem s_dNever {DD : DEnds} : dNever XX DD ρ = False := rfl
theorem psd_never {st : Stmt} : PS X st (cS G E dNever) := ⟨fun pins s σ H D I h => by
  obtain ⟨H0, r, γ, ρ, XX, DD, env, q, hx, l⟩ := h
  exact q.elim⟩
/-! ### isinstance of a value, its kinds built in -/
def D.ty : D → Option String
  | .non => some "NoneType"
  | .bl _ => some "bool"
  | .int _ => some "int"
  | .str _ => some "str"
  | .tup _ => some "tuple"
  | .lst _ => some "list"
  | _ => none
theorem rep_tyx {K : PySem.W.Frag} {d : D} {t : String} {v : V} (h : d.ty = some t) (hr : Rep G r P H d v) : TyX K H v (.type t) := by
  cases d with
  | non => cases h; rw [rep_n hr]; exact .base .non
  | bl b => cases h; rw [rep_b hr]; exact .base (.bl b)
  | int b => cases h; rw [rep_i hr]; exact .base (.int b)
  | str b => cases h; rw [rep_s hr]; exact .base (.str b)
  | tup ds => cases h; obtain ⟨a, xs, rfl, h1, _⟩ := rep_tup hr; exact .base (.tup h1)
  | lst ds => cases h; obtain ⟨a, xs, rfl, _, h1, _⟩ := rep_lst hr; exact .base (.lst h1)
  | obj ds => cases h
  | row => cases h
  | dic _ _ _ => cases h
  | fls _ => cases h
variable {e : Expr} {da : DTE} {p p2 q2 pos : Pos} {x : Str} {T : String} {k : Nat}
/-- isinstance(e, T) -/
def dIsi (T : String) (da : DTE) : DTE := fun XX ρ Q => da XX ρ fun _ d => ∃ t b, d.ty = some t ∧ kitB t T = some b ∧ Q .fr (.bl b)
theorem pe_ty {m : Str} (hg : Gl X m) (hm : X.mg m = none) (hv : bootBuiltins m = some (.type T)) (hn : m ≠ "__name__" := by decide) (hdb : (m == ("__debug__" : Str)) = false := by decide) : PE X (.Name m p2) (tC (.ty T)) :=
  ⟨fun pins s σ H Q I h => ld_blt I hg hm hv ⟨.ty T, H, I, rfl, h⟩ hn hdb⟩
theorem pd_isi {m : Str} (hg : Gl X "isinstance") (hm : X.mg "isinstance" = none) (ha : PE X e (cE G E da)) (hg2 : Gl X m) (hm2 : X.mg m = none) (hv2 : bootBuiltins m = some (.type T)) (hn : m ≠ "__name__" := by decide) (hdb : (m == ("__debug__" : Str)) = false := by decide)
    (he : starEach [e, .Name m p2] X.env = (false, eval e X.env) :: starEach [.Name m p2] X.env := by rfl) (he2 : starEach [.Name m p2] X.env = (false, eval (.Name m p2) X.env) :: starEach [] X.env := by rfl) (hpl : (backTo pos (starEach [.Name m p2] X.env)).any (·.1) = false := by rfl) :
    PE X (.Call (.Name "isinstance" p) [e, .Name m p2] [] pos) (cE G E (dIsi T da)) := by
  refine pe_weak (pe_callB (pos := pos) (p := p) call_isi hg hm bt_isinstance (pa_cons ha (pa_cons (pe_ty (p2 := p2) hg2 hm2 hv2 hn hdb) pa_nil he2) he) (he := he) (hpl := hpl)) fun σ H Qv h => ?_
  obtain ⟨H0, r, γ, ρ, XX, Q, env, q, hx, post⟩ := h
  refine cE_at (Now.start env) q hx fun v k d H1 ⟨t, b, h1, h2, q1⟩ e1 N1 r1 => ?_
  exact ⟨v, .ty T, .type t, .type T, b, rfl, .ty T, rep_tyx h1 r1, kit_ty h2, post _ _ _ _ q1 e1 N1.row rep_bl⟩
/-- isinstance(e, (T, U)) -/
def dIsi2 (T U : String) (da : DTE) : DTE := fun XX ρ Q => da XX ρ fun _ d => ∃ t b c, d.ty = some t ∧ kitB t T = some b ∧ kitB t U = some c ∧ Q .fr (.bl (b || c))
theorem pd_isi2 {m m' : Str} {U : String} {kk : Nat} {p3 : Pos} (hg : Gl X "isinstance") (hm : X.mg "isinstance" = none) (ha : PE X e (cE G E da)) (hg2 : Gl X m) (hm2 : X.mg m = none) (hv2 : bootBuiltins m = some (.type T)) (hg3 : Gl X m') (hm3 : X.mg m' = none) (hv3 : bootBuiltins m' = some (.type U))
    (hn : m ≠ "__name__" := by decide) (hdb : (m == ("__debug__" : Str)) = false := by decide) (hn' : m' ≠ "__name__" := by decide) (hdb' : (m' == ("__debug__" : Str)) = false := by decide)
    (he : starEach [e, .Tuple [.Name m p2, .Name m' p3] kk q2] X.env = (false, eval e X.env) :: starEach [.Tuple [.Name m p2, .Name m' p3] kk q2] X.env := by rfl)
    (he2 : starEach [.Tuple [.Name m p2, .Name m' p3] kk q2] X.env = (false, eval (.Tuple [.Name m p2, .Name m' p3] kk q2) X.env) :: starEach [] X.env := by rfl) (hpl : (backTo pos (starEach [.Tuple [.Name m p2, .Name m' p3] kk q2] X.env)).any (·.1) = false := by rfl)
    (he3 : starEach [.Name m p2, .Name m' p3] X.env = (false, eval (.Name m p2) X.env) :: starEach [.Name m' p3] X.env := by rfl) (he4 : starEach [.Name m' p3] X.env = (false, eval (.Name m' p3) X.env) :: starEach [] X.env := by rfl) :
    PE X (.Call (.Name "isinstance" p) [e, .Tuple [.Name m p2, .Name m' p3] kk q2] [] pos) (cE G E (dIsi2 T U da)) := by
  refine pe_weak (pe_callB (pos := pos) (p := p) call_isiT hg hm bt_isinstance (pa_cons ha (pa_cons (pe_tup (pa_cons (pe_ty (p2 := p2) hg2 hm2 hv2 hn hdb) (pa_cons (pe_ty (p2 := p3) hg3 hm3 hv3 hn' hdb') pa_nil he4) he3)) pa_nil he2) he) (he := he) (hpl := hpl)) fun σ H Qv h => ?_
  obtain ⟨H0, r, γ, ρ, XX, Q, env, q, hx, post⟩ := h
  refine cE_at (Now.start env) q hx fun v k d H1 ⟨t, b, c, h1, h2, h3, q1⟩ e1 N1 r1 => ?_
  refine ⟨by show 2 ≤ sizeLine; decide, fun tp htp => ?_⟩
  have N2 := N1.step (SameR.new (o := .tup [V.ty T, V.ty U]) htp) (N1.row.new htp)
  refine ⟨v, tp, [.ty T, .ty U], .type t, [.type T, .type U], b || c, rfl, upd_same, .cons (.ty T) (.cons (.ty U) .nil), rep_tyx h1 (N1.cxt.pers (SameR.new (o := .tup [V.ty T, V.ty U]) htp) r1), ?_, post _ _ _ _ q1 N2.ex N2.row rep_bl⟩
  refine kitAny_cons (kit_ty h2) (fun hb => ?_) fun hb => by rw [hb]; rfl
  refine kitAny_cons (kit_ty h3) (fun hc => ?_) fun hc => by rw [hb, hc]; rfl
  rw [hb, hc]
  exact kitAny_nil
end
@[simp] theorem s_dIsi {XX ρ Q T da} : dIsi T da XX ρ Q = da XX ρ fun _ d => ∃ t b, d.ty = some t ∧ kitB t T = some b ∧ Q .fr (.bl b) := rfl
@[simp] theorem s_dIsi2 {XX ρ Q T U da} : dIsi2 T U da XX ρ Q = da XX ρ fun _ d => ∃ t b c, d.ty = some t ∧ kitB t T = some b ∧ kitB t U = some c ∧ Q .fr (.bl (b || c)) := rfl
/-! ### a case is made -/
section
variable {G : Gp} {r : Option Addr} {P P' : Addr → Prop} {H H' : Hp}
mutual
theorem Rep.tups (k : ∀ a o, H a = some o → (∀ C dx, o ≠ .ins C dx []) → (∀ ys, o ≠ .lst ys) → H' a = some o) : ∀ (d : D) (v : V), d.flat = true → Rep G r P H d v → Rep G r P' H' d v
  | .non, _, _, h => by unfold Rep at h ⊢; exact h
  | .bl _, _, _, h => by unfold Rep at h ⊢; exact h
  | .int _, _, _, h => by unfold Rep at h ⊢; exact h
  | .str _, _, _, h => by unfold Rep at h ⊢; exact h
  | .row, _, _, h => by unfold Rep at h ⊢; exact h
  | .tup ds, v, f, h => by
    unfold Rep at h ⊢
    obtain ⟨a, xs, e, h1, h2⟩ := h
    unfold D.flat at f
    exact ⟨a, xs, e, k _ _ h1 (fun _ _ z => nomatch z) (fun _ z => nomatch z), Reps.tups k ds xs f h2⟩
  | .lst ds, v, f, h => by unfold D.flat at f; cases f
  | .obj ds, v, f, h => by
    unfold Rep at h ⊢
    obtain ⟨a, dx, l, o, xs, e, hi, h1, h2⟩ := h
    unfold D.flat at f
    exact ⟨a, dx, l, o, xs, e, k _ _ hi (fun _ _ z => by cases z) (fun _ z => nomatch z), k _ _ h1 (fun _ _ z => nomatch z) (fun _ z => nomatch z), Reps.tups k ds xs f h2⟩
  | .fls ds, v, f, h => by
    unfold Rep at h ⊢
    obtain ⟨a, o, xs, e, h1, h2⟩ := h
    unfold D.flat at f
    exact ⟨a, o, xs, e, k _ _ h1 (fun _ _ z => nomatch z) (fun _ z => nomatch z), Reps.tups k ds xs f h2⟩
  | .dic o ks ds, v, f, h => by
    unfold Rep at h ⊢
    obtain ⟨a, u, xs, e, h1, h2, h3, h4⟩ := h
    unfold D.flat at f
    exact ⟨a, u, xs, e, k _ _ h1 (fun _ _ z => nomatch z) (fun _ z => nomatch z), h2, h3, Reps.tups k ds xs f h4⟩
theorem Reps.tups (k : ∀ a o, H a = some o → (∀ C dx, o ≠ .ins C dx []) → (∀ ys, o ≠ .lst ys) → H' a = some o) : ∀ (ds : List D) (xs : List V), D.flats ds = true → Reps G r P H ds xs → Reps G r P' H' ds xs
  | [], _, _, h => by unfold Reps at h ⊢; exact h
  | d :: ds, _, f, h => by
    unfold Reps at h ⊢
    unfold D.flats at f
    rw [Bool.and_eq_true] at f
    obtain ⟨x, ys, e, h1, h2⟩ := h
    exact ⟨x, ys, e, Rep.tups k d x f.1 h1, Reps.tups k ds ys f.2 h2⟩
end
end
section
variable {G : Gp} {E : XK} {H0 H H' Hs : Hp} {r : Option Addr} {M : Addr → Prop} {X : Cx} {σ : L2.St} {ρ : Rho} {γ : List Gh} {XX : Exn → Prop}
variable {P : Program} {w : World} {K : PySem.W.Frag} {mg : Str → Option Value} {base : Heap} {fn : DSp} {t1 t2 : DTS} {te : DTE}
/-- __init__(self, faces) -/
def spI (G : Gp) (fn : DSp) : Sp := fun vs H Qv E => ∃ r x dx v d XX QQ, vs = [.ref x, v] ∧ H x = some (.ins G.cC dx []) ∧ some x ≠ r ∧ RowOk G.K r H ∧ Rep G r (fun a => some a ≠ r) H d v ∧ fn XX [d] QQ ∧ XOk G E XX r H ∧
  ∀ H1 l xs ds, SameR r H H1 → RowOk G.K r H1 → H l = none → H1 l = some (.lst xs) → Reps G r (fun _ => True) H1 ds xs → D.flats ds = true → QQ (.obj ds) → Qv .non (upd H1 x (.ins G.cC dx [("kept_faces", .ref l)]))
/-- what the body of __init__ says: two statements, then self.kept_faces = .. -/
def dInit (n : Nat) (t1 t2 : DTS) (te : DTE) : DSp := fun XX ds QQ => ∃ d, ds = [d] ∧ ∀ x, t1 XX { nx := t2 XX { nx := fun ρ => ρ[0]? = some (.is (.ref x)) ∧ te XX ρ fun k d' => k = .fr ∧ ∃ ds, d' = .lst ds ∧ D.flats ds = true ∧ QQ (.obj ds), rt := fun _ => False }, rt := fun _ => False }
  (.is (.ref x) :: .v false d :: List.replicate (n - 2) .e)
theorem init_body {N : List Str} {vs : List V} {Qv : VK} (c : Cls K G.cC) (na : NoAttr K G.cC "kept_faces") (hN : 2 ≤ N.length) (h : spI G (dInit N.length t1 t2 te) vs H Qv E) :
    tSeq (cS G E t1) (tSeq (cS G E t2) (sFld K (tVar 0) (cE G E te) "kept_faces")) { nx := fun _ H' => Qv .non H', rt := Qv } (L2.start N vs) H := by
  obtain ⟨r, x, dx, v, d, XX, QQ, rfl, hx, hxr, hrow, hv, ⟨d', e, hb⟩, hE, post⟩ := h
  cases e
  have env : EnvOk G H r [] H (L2.start N [.ref x, v]) (.is (.ref x) :: .v false d :: List.replicate (N.length - 2) .e) := by
    have hno : ∀ {i : Nat} {s : Slot}, (Slot.is (.ref x) :: .v false d :: List.replicate (N.length - 2) .e)[i]? = some s → s.isOwn = false := fun {i s} h => by
      match i, h with
      | 0, h => cases h; rfl
      | 1, h => cases h; rfl
      | i + 2, h =>
        rw [List.getElem?_cons_succ, List.getElem?_cons_succ, List.getElem?_replicate] at h
        split at h
        · cases h; rfl
        · cases h
    have nomo : ∀ a, ¬ Mo [] (L2.start N [.ref x, v]) (.is (.ref x) :: .v false d :: List.replicate (N.length - 2) .e) a := fun a m => by
      rcases m with ⟨i, s, u, h1, _, h2⟩ | m
      · have z := Slot.owns_own h2
        rw [hno h1] at z; cases z
      · cases m
    refine ⟨?_, .refl, fun a e => ?_, hrow, fun i s u h1 h2 => ?_, fun i j s t u w a h1 _ _ _ h3 => ?_, fun i s u a h1 _ h2 => ?_, fun g hg => nomatch hg⟩
    · unfold L2.start
      simp
    · obtain ⟨_, _, _, _, _, q, _⟩ := hrow a e
      rw [q]; exact fun z => nomatch z
    · match i, h1, h2 with
      | 0, h1, h2 =>
        cases h1
        unfold L2.start at h2
        cases h2
        rfl
      | 1, h1, h2 =>
        cases h1
        unfold L2.start at h2
        cases h2
        exact ⟨v, rfl, hv.imp fun a p => ⟨nomo a, p⟩⟩
      | i + 2, h1, _ =>
        rw [List.getElem?_cons_succ, List.getElem?_cons_succ, List.getElem?_replicate] at h1
        split at h1
        · cases h1; trivial
        · cases h1
    · have z := Slot.owns_own h3
      rw [hno h1] at z; cases z
    · have z := Slot.owns_own h2
      rw [hno h1] at z; cases z
  refine cS_at (DD := { nx := t2 XX { nx := fun ρ => ρ[0]? = some (.is (.ref x)) ∧ te XX ρ fun k d' => k = .fr ∧ ∃ ds, d' = .lst ds ∧ D.flats ds = true ∧ QQ (.obj ds), rt := fun _ => False }, rt := fun _ => False }) env (hb x) hE
    ⟨fun σ1 H1 ρ1 env1 q1 => ?_, fun _ _ _ _ q => q.elim, fun _ _ _ _ q => q.elim, fun _ _ _ q => q.elim⟩
  refine cS_at env1 q1 hE ⟨fun σ2 H2 ρ2 env2 ⟨h0, q2⟩ => ?_, fun _ _ _ _ q => q.elim, fun _ _ _ _ q => q.elim, fun _ _ _ q => q.elim⟩
  refine cE_at (Now.start env2) q2 hE fun v k d' H3 ⟨hk, ds, hd, hf, q3⟩ e3 N3 r3 => ?_
  subst hk hd
  obtain ⟨u, hu⟩ : ∃ u, σ2[0]? = some u := ⟨_, List.getElem?_eq_getElem (by rw [env2.len]; exact (List.getElem?_eq_some_iff.mp h0).1)⟩
  have so := env2.sl 0 _ u h0 hu
  cases so
  refine ⟨_, hu, ?_⟩
  obtain ⟨l, xs, rfl, hl, h1, h2⟩ := rep_lst r3
  have ext := N3.now.ext
  refine ⟨x, _, dx, [], rfl, ext.keep _ _ hxr hx, c, na, by decide, ?_⟩
  exact post H3 l xs ds ext N3.row (env2.ext.there _ hl) h1 (h2.imp fun _ _ => trivial) hf q3
theorem fnI {qual : Str} {st : Stmt} {f : Addr} {fd : FuncData} {N : List Str} {k : Nat} (F : Fun K "__init__" qual st f fd) (S : FnScope N ["self", "faces"] (defScope st)) (c : Cls K G.cC) (na : NoAttr K G.cC "kept_faces")
    (hb : ∀ (cdv : Value) (A : Around) (outer : List Env) (s : Shared) (H : Hp) (E : XK), Room k (A.deeper (envOfC qual (defScope st) s.heap.objs.size f cdv)) →
      PSs (cxOf CX0 P w K mg base N qual (defScope st) f cdv A outer s H E).nox (defBody st) (tSeq (cS G E t1) (tSeq (cS G E t2) (sFld K (tVar 0) (cE G E te) "kept_faces"))))
    (hr : ∀ XX ds Q, fn XX ds Q → dInit N.length t1 t2 te XX ds Q) : FnOk P w K mg base CX0 (k + 1) f fd ["self", "faces"] (spI G fn) := by
  have hps : 2 ≤ N.length := by have := congrArg List.length S.pre; rw [List.length_take] at this; simp at this; omega
  refine F.ok S (fun vs H Q E h => ?_) (fun cdv A outer s H vs Q E hroom h => ?_)
  · obtain ⟨r, x, dx, v, d, XX, QQ, rfl, _⟩ := h
    rfl
  · refine ⟨_, hb cdv A outer s H E hroom, init_body c na hps ?_⟩
    obtain ⟨r, x, dx, v, d, XX, QQ, h1, h2, h3, h4, h5, h6, h7⟩ := h
    exact ⟨r, x, dx, v, d, XX, QQ, h1, h2, h3, h4, h5, hr _ _ _ h6, h7⟩
/-- Case(faces), made -/
structure MkC (P : Program) (w : World) (K : PySem.W.Frag) (mg : Str → Option Value) (base : Heap) (CX : CXT) (k : Nat) (C : Addr) (x : Str) (sp : Sp) : Prop where
  ex : ∃ f fd, Mk K C f ∧ mg x = some (.ref C) ∧ Binds K fd ["self", "faces"] [] ∧ FnOk P w K mg base CX k f fd ["self", "faces"] sp
def dMake (fn : DSp) (t : DTA) : DTE := fun XX ρ Q => t XX ρ fun _ ds => fn (fun _ => False) ds (Q .fr)
variable {x : Str} {p pos : Pos} {e : Expr} {es : List Expr} {dt : DTA} {k : Nat}
/-- an expression, then a thing of its heap is closed -/
def tLk (t : TE) : TE := fun σ H Q => t σ H fun v H1 => ∃ l u, H1 l = some u ∧ Mut (some u) ∧ ∀ od, Q v (upd H1 l (.frz od u))
theorem pe_lk {e : Expr} {t : TE} (h : PE X e t) : PE X e (tLk t) := by
  refine ⟨fun pins s σ H Q I hw => ?_⟩
  refine thn (h.run pins s σ H _ I hw) fun v s1 ⟨x, H1, I1, r, l, u, hl, mu, q⟩ => ?_
  obtain ⟨od, I2⟩ := I1.lock hl mu
  exact ⟨x, _, I2, r, q od⟩
theorem cE_make {Qv : VK} {E' : XK} (hfn : ∀ XX ds Q, fn XX ds Q → ∃ d, ds = [d]) (h : cE G E (dMake fn dt) σ H Qv) : tLk (tMake G.cC (spI G fn) [] E' (cA G E dt)) σ H Qv := by
  obtain ⟨H0, r, γ, ρ, XX, Q, env, q, hx, post⟩ := h
  refine cA_at (Now.start env) q hx fun vs k ds H1 q1 e1 N1 r1 x dx hx1 hdx hne => ?_
  obtain ⟨d, rfl⟩ := hfn _ _ _ q1
  obtain ⟨v, rfl, rv⟩ := reps1 r1
  have c1 := N1.cxt
  have hx2 : (upd H1 dx (.own x)) x = none := by rw [upd_ne (Ne.symm hne)]; exact hx1
  have s2 : SameR r H1 (upd (upd H1 dx (.own x)) x (.ins G.cC dx [])) := (SameR.new hdx).trans (.new hx2)
  have row2 : RowOk G.K r (upd (upd H1 dx (.own x)) x (.ins G.cC dx [])) := (N1.row.new hdx).new hx2
  have xr : some x ≠ r := fun z => env.rt x z.symm ((env.ext.trans e1).there x hx1)
  refine ⟨r, x, dx, v, d, fun _ => False, _, rfl, upd_same, xr, row2, Rep.mono N1.row s2 (fun a p => ⟨c1.ne_r p, c1.ne_r p⟩) rv, q1, fun _ _ _ _ z => z.elim, fun H3 l xs ds s3 row3 hl hl3 hds hf q3 => ⟨rfl, ?_⟩⟩
  have s13 : SameR r H1 (upd H3 x (.ins G.cC dx [("kept_faces", .ref l)])) := (s2.trans s3).mut hx1
  have hx3 : H3 x = some (.ins G.cC dx []) := s3.keep _ _ xr upd_same
  have hl1 : H1 l = none := s2.there l hl
  have nlx : l ≠ x := fun z => by rw [z, upd_same] at hl; cases hl
  have row4 : RowOk G.K r (upd H3 x (.ins G.cC dx [("kept_faces", .ref l)])) := fun a ha => by
    obtain ⟨s, ns, i, j, k, h1, h2, h3⟩ := row3 a ha
    refine ⟨s, ns, i, j, k, ?_, ?_, h3⟩
    · rw [upd_ne fun z => by rw [z] at ha; exact xr ha.symm]; exact h1
    · rcases h2 with ⟨o, h2⟩ | h2
      · refine .inl ⟨o, ?_⟩
        rw [upd_ne fun z => by rw [z, hx3] at h2; cases h2]; exact h2
      · exact .inr h2
  have hl4 : (upd H3 x (.ins G.cC dx [("kept_faces", .ref l)])) l = some (.lst xs) := by rw [upd_ne nlx]; exact hl3
  refine ⟨l, .lst xs, hl4, trivial, fun od => ?_⟩
  have hln : some l ≠ r := fun z => env.rt l z.symm (e1.there l hl1 |> env.ext.there l)
  have s14 := s13.mut (o := .frz od (.lst xs)) hl1
  refine post _ .fr _ _ q3 (e1.trans s14) (row4.write hl4 trivial hln) ?_
  unfold Rep
  have nxl : x ≠ l := fun z => nlx z.symm
  refine ⟨x, dx, l, od, xs, rfl, by rw [upd_ne nxl]; exact upd_same, upd_same, ?_⟩
  refine Reps.tups (H := H3) (fun a o ha hno hnl => ?_) ds xs hf hds
  have hal : a ≠ l := fun z => by rw [z, hl3] at ha; cases ha; exact hnl _ rfl
  rw [upd_ne hal, upd_ne fun z => by rw [z, hx3] at ha; cases ha; exact hno _ _ rfl]
  exact ha
theorem pd_make (C : MkC X.prog X.w X.K X.mg X.base CX0 k G.cC x (spI G fn)) (hfn : ∀ XX ds Q, fn XX ds Q → ∃ d, ds = [d]) (hr : Room (k + 1) X.A) (ha : PA X (e :: es) (cA G E dt)) (hg : Gl X x := by rfl) (hdb : (x == ("__debug__" : Str)) = false := by decide)
    (he : starEach (e :: es) X.env = (false, eval e X.env) :: starEach es X.env := by rfl) (hpl : (backTo pos (starEach es X.env)).any (·.1) = false := by rfl) :
    PE X (.Call (.Name x p) (e :: es) [] pos) (cE G E (dMake fn dt)) := by
  obtain ⟨f, fd, h1, h2, h3, h4⟩ := C.ex
  exact pe_weak (pe_lk (pe_make (p := p) h1 h4 hr hg h2 h3 .nil pass0 ha hdb he hpl)) fun _ _ _ h => cE_make hfn h
end
@[simp] theorem s_dMake {XX ρ Q fn t} : dMake fn t XX ρ Q = t XX ρ fun _ ds => fn (fun _ => False) ds (Q .fr) := rfl
end HD

set_option Elab.async false
set_option linter.all false
set_option maxRecDepth 100000
set_option maxHeartbeats 1000000
/-! the law's draws: taken(row, many) -/
namespace HD
open PySem PySem.Spec PyProof.Rows L2
abbrev qAdd : R2 := rI0 fun i j => .int (i + j)
abbrev qSub : R2 := rI0 fun i j => .int (i - j)
abbrev qMul : R2 := rI CMul fun i j => .int (i * j)
abbrev qDiv : R2 := rI CDiv fun i j => .int (i / j)
abbrev qMod : R2 := rI (fun _ j => 0 < j) fun i j => .int (i % j)
abbrev qPow : R2 := rI CPow fun i j => .int (i ^ j.toNat)
abbrev qGt : R2 := rI0 fun i j => .bl (decide (j < i))
abbrev qGe : R2 := rI0 fun i j => .bl (decide (j ≤ i))
abbrev qLen (K : PySem.W.Frag) : List V → Hp → VK → Prop := fun xs H Q => ∃ p ys, xs = [.ref p] ∧ (SqL K H p ys ∨ SqT K H p ys) ∧ Q (.int ys.length) H
abbrev tI (i : Int) : TE := tC (.int i)
abbrev tAt (K : PySem.W.Frag) (i : Int) : TE := tOp (rIxL K) (tVar 0) (tI i)
abbrev gAt (i : Int) : TG := gSub (tVar 0) (tI i) L2.rSetL
/-- slots: 0 the row, 1 many, 2 found, 3 cell -/
def tTaken (K : PySem.W.Frag) : TS :=
  tSeq (tIfS (tTest (tOp qGt (tAt K 3) (tI 0)))
    (tSeq (tAsg (tOp qMod (tAt K 3) (tVar 1)) (gName 2)) (tSeq (tAsg (tOp qDiv (tAt K 3) (tVar 1)) (gAt 3)) (tRet (tVar 2)))) tNext)
  (tSeq (tAsg (tOp qAdd (tAt K 1) (tI 1)) (gAt 1))
  (tSeq (tIfS (tTest (tOp qGt (tAt K 1) (tCB (qLen K) (tCons (tAt K 0) tNil))))
    (tSeq (tAsg (tOp qMod (tOp qAdd (tOp qMul (tAt K 2) (tI 48271)) (tI 11)) (tI 2147483647)) (gAt 2)) (tRet (tOp qMod (tOp qDiv (tAt K 2) (tI 7)) (tVar 1)))) tNext)
  (tSeq (tAsg (tOp (rIxL K) (tAt K 0) (tOp qSub (tAt K 1) (tI 1))) (gName 3))
  (tSeq (tAsg (tOp qMod (tOp qAdd (tOp qAdd (tOp qMul (tAt K 2) (tI 48271)) (tVar 3)) (tI 11)) (tI 2147483647)) (gAt 2))
  (tSeq (tAsg (tIf (tTest (tOp qGe (tVar 3) (tOp qPow (tI 10) (tI 18)))) (tOp qDiv (tVar 3) (tVar 1)) (tI 0)) (gAt 3))
  (tRet (tOp qMod (tVar 3) (tVar 1))))))))
def f_taken : DSp := fun _ ds Q => ∃ m : Int, ds = [.row, .int m] ∧ 0 < m ∧ m < 1073741824 ∧ ∀ i, 0 ≤ i → i < m → Q (.int i)
section
variable {G : Gp} {H H' : Hp} {r : Option Addr}
theorem RowOk.set {a s : Addr} {ns : List Int} {i j k : Int} (hr : RowOk G.K r H) (ha : r = some a) (hs : ScrOk G.K H s ns) {o : List V} (ho : H a = some (.lst o)) (hi : 0 ≤ i) (hj : 0 ≤ j ∧ j < 2147483647) (hk : 0 ≤ k) :
    RowOk G.K r (upd H a (.lst [.ref s, .int i, .int j, .int k])) := fun b hb => by
  rw [ha] at hb
  cases hb
  refine ⟨s, ns, i, j, k, upd_same, ?_, hi, hj.1, hj.2, hk⟩
  rcases hs with ⟨u, h⟩ | h
  · exact .inl ⟨u, by rw [upd_ne fun z => by rw [z, ho] at h; cases h]; exact h⟩
  · exact .inr h
theorem SameR.row {a : Addr} {o o' : HO} (ha : r = some a) (h : H a = some o) : SameR r H (upd H a o') := ⟨fun b u n e => by
  rw [upd_ne fun z => n (by rw [z, ha])]; exact e, fun b e => by
  by_cases z : b = a
  · rw [z, upd_same] at e; cases e
  · rw [upd_ne z] at e; exact e⟩
theorem ScrOk.sq {K : PySem.W.Frag} {s : Addr} {ns : List Int} (h : ScrOk K H s ns) : SqL K H s (ns.map V.int) := by
  rcases h with ⟨o, h⟩ | h
  · exact .inl (.inr ⟨o, h⟩)
  · exact .inr h
theorem iT {c : Bool} {A B : Prop} (hc : c = true) (h : A) : if c = true then A else B := by rw [if_pos hc]; exact h
theorem iF {c : Bool} {A B : Prop} (hc : c = false) (h : B) : if c = true then A else B := by rw [hc, if_neg Bool.false_ne_true]; exact h
theorem row_at {a s : Addr} {v1 v2 v3 : V} {σ : L2.St} {Q : VK} {i : Int} {v : V} (h0 : σ[0]? = some (some (.ref a))) (hH : H a = some (.lst [.ref s, v1, v2, v3])) (hv : atI [.ref s, v1, v2, v3] i = some v) (q : Q v H) : tAt G.K i σ H Q :=
  ⟨_, h0, a, _, i, v, rfl, rfl, SqL.of hH, hv, q⟩
theorem row_set {a s : Addr} {v1 v2 v3 v : V} {σ : L2.St} {Q : L2.St → Hp → Prop} {i : Int} {j : Nat} {ys : List V} (h0 : σ[0]? = some (some (.ref a))) (hH : H a = some (.lst [.ref s, v1, v2, v3])) (hv : ixN 4 i = some j) (hy : [V.ref s, v1, v2, v3].set j v = ys) (q : Q σ (upd H a (.lst ys))) : gAt i v σ H Q :=
  ⟨_, h0, a, _, i, j, rfl, rfl, hH, hv, by rw [hy]; exact q⟩
/-- what it does -/
theorem taken_ok {E : XK} {vs : List V} {Qv : VK} {N : List Str} (hN : N.length = 4) (h : spD G f_taken vs H Qv E) : tTaken G.K { nx := fun _ H' => Qv .non H', rt := Qv } (L2.start N vs) H := by
  obtain ⟨r, ds, XX, QQ, hr, hd, ⟨m, rfl, h0, h1, hq⟩, hx, post⟩ := h
  obtain ⟨v, u, rfl, r1, r2⟩ := reps2 hd
  cases rep_i r2
  have r1' : ∃ a, v = .ref a ∧ r = some a := by unfold Rep at r1; exact r1
  obtain ⟨a, rfl, ha⟩ := r1'
  obtain ⟨s, ns, i, j, k, hH, hs, hi, hj, hj2, hk⟩ := hr a ha
  have e0 : L2.start N [.ref a, .int m] = [some (.ref a), some (.int m), none, none] := by
    unfold L2.start
    rw [hN]
    rfl
  rw [e0]
  have fin : ∀ (n : Int) (H' : Hp), RowOk G.K r H' → SameR r H H' → Qv (.int (n % m)) H' := fun n H' h2 h3 => post _ (.int (n % m)) H' (hq _ (Int.emod_nonneg _ (by omega)) (Int.emod_lt_of_pos _ h0)) h3 h2 rep_int
  refine row_at rfl hH rfl ⟨k, 0, rfl, rfl, decide (0 < k), rfl, ?_⟩
  by_cases hk0 : 0 < k
  · refine iT (decide_eq_true hk0) ?_
    refine row_at rfl hH rfl ⟨_, rfl, k, m, rfl, rfl, h0, ?_⟩
    refine row_at rfl hH rfl ⟨_, rfl, k, m, rfl, rfl, ⟨h0, h1⟩, ?_⟩
    refine row_set rfl hH rfl rfl ?_
    refine ⟨_, rfl, ?_⟩
    exact fin _ _ (hr.set ha hs hH hi ⟨hj, hj2⟩ (Int.ediv_nonneg hk (by omega))) (SameR.row ha hH)
  · refine iF (decide_eq_false hk0) ?_
    refine row_at rfl hH rfl ⟨i, 1, rfl, rfl, ?_⟩
    refine row_set rfl hH rfl rfl ?_
    have R1 := hr.set ha hs hH (i := i + 1) (by omega) ⟨hj, hj2⟩ hk
    have S1 := SameR.row (o' := .lst [.ref s, .int (i + 1), .int j, .int k]) ha hH
    obtain ⟨s', ns', i', j', k', hH1, hs1, _⟩ := R1 a ha
    rw [upd_same] at hH1
    cases hH1
    refine row_at rfl upd_same rfl ?_
    refine row_at rfl upd_same rfl ⟨s, ns'.map V.int, rfl, .inl hs1.sq, ?_⟩
    refine ⟨i + 1, _, rfl, rfl, _, rfl, ?_⟩
    by_cases hl : ((ns'.map V.int).length : Int) < i + 1
    · refine iT (decide_eq_true hl) ?_
      refine row_at rfl upd_same rfl ⟨j, 48271, rfl, rfl, .inr ⟨by decide, by decide⟩, ?_⟩
      refine ⟨_, _, rfl, rfl, _, _, rfl, rfl, (by decide : (0 : Int) < 2147483647), ?_⟩
      refine row_set rfl upd_same rfl rfl ?_
      have R2 := R1.set ha hs1 upd_same (i := i + 1) (j := (j * 48271 + 11) % 2147483647) (k := k) (by omega) ⟨Int.emod_nonneg _ (by decide), Int.emod_lt_of_pos _ (by decide)⟩ hk
      have S2 := S1.trans (SameR.row (o' := .lst [.ref s, .int (i + 1), .int ((j * 48271 + 11) % 2147483647), .int k]) ha upd_same)
      refine row_at rfl upd_same rfl ⟨_, _, rfl, rfl, ⟨by decide, by decide⟩, ?_⟩
      refine ⟨_, rfl, _, _, rfl, rfl, h0, ?_⟩
      exact fin _ _ R2 S2
    · refine iF (decide_eq_false hl) ?_
      refine row_at rfl upd_same rfl ?_
      refine row_at rfl upd_same rfl ⟨i + 1, 1, rfl, rfl, ?_⟩
      have hlt : i.toNat < ns'.length := by rw [List.length_map] at hl; omega
      have hix : atI (ns'.map V.int) (i + 1 - 1) = some (V.int (ns'.getD i.toNat 0)) := by
        unfold atI
        have : i + 1 - 1 = ((i.toNat : Nat) : Int) := by omega
        rw [this, List.length_map, ixN_nat hlt]
        show (ns'.map V.int)[i.toNat]? = _
        rw [List.getElem?_map, List.getElem?_eq_getElem hlt, List.getD_eq_getElem?_getD, List.getElem?_eq_getElem hlt]
        rfl
      refine ⟨s, _, _, _, rfl, rfl, hs1.sq, hix, ?_⟩
      generalize ns'.getD i.toNat 0 = c
      refine row_at rfl upd_same rfl ⟨j, 48271, rfl, rfl, .inr ⟨by decide, by decide⟩, ?_⟩
      refine ⟨_, rfl, _, _, rfl, rfl, _, _, rfl, rfl, _, _, rfl, rfl, (by decide : (0 : Int) < 2147483647), ?_⟩
      refine row_set rfl upd_same rfl rfl ?_
      have R2 := R1.set ha hs1 upd_same (i := i + 1) (j := (j * 48271 + c + 11) % 2147483647) (k := k) (by omega) ⟨Int.emod_nonneg _ (by decide), Int.emod_lt_of_pos _ (by decide)⟩ hk
      have S2 := S1.trans (SameR.row (o' := .lst [.ref s, .int (i + 1), .int ((j * 48271 + c + 11) % 2147483647), .int k]) ha upd_same)
      obtain ⟨s2, ns2, i2, j2, k2, hH2, hs2, _⟩ := R2 a ha
      rw [upd_same] at hH2
      cases hH2
      refine ⟨_, rfl, 10, 18, rfl, rfl, ⟨by decide, by decide, by decide⟩, c, _, rfl, rfl, _, rfl, ?_⟩
      by_cases hc : (10 : Int) ^ (18 : Int).toNat ≤ c
      · refine iT (decide_eq_true hc) ?_
        refine ⟨_, rfl, _, rfl, c, m, rfl, rfl, ⟨h0, h1⟩, ?_⟩
        refine row_set rfl upd_same rfl rfl ?_
        have hc0 : 0 ≤ c := Int.le_trans (by decide) hc
        refine ⟨_, rfl, _, rfl, c, m, rfl, rfl, h0, ?_⟩
        exact fin _ _ (R2.set ha hs2 upd_same (i := i + 1) (by omega) ⟨Int.emod_nonneg _ (by decide), Int.emod_lt_of_pos _ (by decide)⟩ (Int.ediv_nonneg hc0 (by omega))) (S2.trans (SameR.row ha upd_same))
      · refine iF (decide_eq_false hc) ?_
        show gAt 3 (.int 0) _ _ _
        refine row_set rfl upd_same rfl rfl ?_
        refine ⟨_, rfl, _, rfl, c, m, rfl, rfl, h0, ?_⟩
        exact fin _ _ (R2.set ha hs2 upd_same (i := i + 1) (by omega) ⟨Int.emod_nonneg _ (by decide), Int.emod_lt_of_pos _ (by decide)⟩ (Int.le_refl 0)) (S2.trans (SameR.row ha upd_same))
variable {P : Program} {w : World} {K : PySem.W.Frag} {mg : Str → Option Value} {base : Heap}
theorem fnTaken {x qual : Str} {st : Stmt} {f : Addr} {fd : FuncData} {N ps : List Str} {k : Nat} (F : Fun K x qual st f fd) (S : FnScope N ps (defScope st)) (hN : N.length = 4) (hp : ps.length = 2) (hK : G.K = K)
    (hb : ∀ (cdv : Value) (A : Around) (outer : List Env) (s : Shared) (H : Hp) (E : XK), PSs (cxOf CX0 P w K mg base N qual (defScope st) f cdv A outer s H E).nox (defBody st) (tTaken K)) : FnOk P w K mg base CX0 (k + 1) f fd ps (spD G f_taken) := by
  refine F.ok S (fun vs H Q E h => ?_) (fun cdv A outer s H vs Q E hroom h => ?_)
  · obtain ⟨r, ds, XX, QQ, _, h2, ⟨m, rfl, _⟩, _⟩ := h
    rw [h2.length, hp]
    rfl
  · refine ⟨_, hb cdv A outer s H E, ?_⟩
    rw [← hK]
    exact taken_ok hN h
end
end HD

set_option Elab.async false
set_option linter.all false
set_option maxRecDepth 100000
set_option maxHeartbeats 1000000
/-! the law itself -/
namespace HD
open PySem PySem.Spec PyProof.Rows L2
def spLaw (K : PySem.W.Frag) : Sp := fun vs H Q _ => ∃ a ns, vs = [.ref a] ∧ ScrOk K H a ns ∧ ∀ H', Q (.bl true) H'
def tRow : TE := tLst (tCons (tVar 0) (tCons (tI 0) (tCons (tI 0) (tCons (tI 0) tNil))))
section
variable {G : Gp} {H H' : Hp} {t : DTS} {P : Program} {w : World} {K : PySem.W.Frag} {mg : Str → Option Value} {base : Heap}
theorem law_body {E : XK} {vs : List V} {Qv : VK} {N : List Str} (hN : 2 ≤ N.length) (hr : t (fun _ => False) { nx := fun _ => False, rt := fun d => d = .bl true } (.e :: .v false .row :: List.replicate (N.length - 2) .e)) (h : spLaw G.K vs H Qv E) :
    tSeq (tAsg tRow (gName 1)) (cS G E t) { nx := fun _ H' => Qv .non H', rt := Qv } (L2.start N vs) H := by
  obtain ⟨a, ns, rfl, hs, hq⟩ := h
  obtain ⟨m, hm⟩ : ∃ m, N.length = m + 2 := ⟨N.length - 2, by omega⟩
  have e0 : L2.start N [.ref a] = some (.ref a) :: none :: List.replicate m none := by
    unfold L2.start
    rw [hm]
    rfl
  rw [e0]
  refine ⟨_, rfl, by show 4 ≤ sizeLine; decide, fun p hp => ?_⟩
  show cS G E t _ ((some (.ref a) :: none :: List.replicate m none).set 1 (some (.ref p))) _
  have hpa : ∀ {b o}, H b = some o → b ≠ p := fun {b o} e => ne_of_none e hp
  have hrow : RowOk G.K (some p) (upd H p (.lst [.ref a, .int 0, .int 0, .int 0])) := fun b hb => by
    cases hb
    refine ⟨a, ns, 0, 0, 0, upd_same, ?_, by decide, by decide, by decide, by decide⟩
    rcases hs with ⟨o, h⟩ | h
    · exact .inl ⟨o, by rw [upd_ne (hpa h)]; exact h⟩
    · exact .inr h
  have hno : ∀ {i : Nat} {s : Slot}, (Slot.e :: .v false .row :: List.replicate m .e)[i]? = some s → s.isOwn = false := fun {i s} h => by
    match i, h with
    | 0, h => cases h; rfl
    | 1, h => cases h; rfl
    | i + 2, h =>
      rw [List.getElem?_cons_succ, List.getElem?_cons_succ, List.getElem?_replicate] at h
      split at h
      · cases h; rfl
      · cases h
  have env : EnvOk G (upd H p (.lst [.ref a, .int 0, .int 0, .int 0])) (some p) [] (upd H p (.lst [.ref a, .int 0, .int 0, .int 0])) ((some (.ref a) :: none :: List.replicate m none).set 1 (some (.ref p))) (.e :: .v false .row :: List.replicate m .e) := by
    refine ⟨by simp, .refl, fun b e => ?_, hrow, fun i s u h1 h2 => ?_, fun i j s t u w a h1 _ _ _ h3 => ?_, fun i s u a h1 _ h2 => ?_, fun g hg => nomatch hg⟩
    · cases e
      rw [upd_same]; exact fun z => nomatch z
    · match i, h1, h2 with
      | 0, h1, _ => cases h1; trivial
      | 1, h1, h2 =>
        cases h1
        cases h2
        refine ⟨_, rfl, ?_⟩
        unfold Rep
        exact ⟨p, rfl, rfl⟩
      | i + 2, h1, _ =>
        rw [List.getElem?_cons_succ, List.getElem?_cons_succ, List.getElem?_replicate] at h1
        split at h1
        · cases h1; trivial
        · cases h1
    · have z := Slot.owns_own h3
      rw [hno h1] at z; cases z
    · have z := Slot.owns_own h2
      rw [hno h1] at z; cases z
  rw [hm] at hr
  refine cS_at env hr (fun _ _ _ _ z => z.elim) ⟨fun _ _ _ _ q => q.elim, fun _ _ _ _ q => q.elim, fun _ _ _ _ q => q.elim, fun v d H' q _ _ h => ?_⟩
  have q' : d = .bl true := q
  subst q'
  cases rep_b h
  exact hq _
theorem fnLaw {x qual : Str} {st : Stmt} {f : Addr} {fd : FuncData} {N : List Str} {k : Nat} {s0 : Str} (F : Fun K x qual st f fd) (S : FnScope N [s0] (defScope st)) (hN : 2 ≤ N.length) (hK : G.K = K)
    (hb : ∀ (cdv : Value) (A : Around) (outer : List Env) (s : Shared) (H : Hp) (E : XK), Room k (A.deeper (envOfC qual (defScope st) s.heap.objs.size f cdv)) →
      PSs (cxOf CX0 P w K mg base N qual (defScope st) f cdv A outer s H E).nox (defBody st) (tSeq (tAsg tRow (gName 1)) (cS G E t)))
    (hr : t (fun _ => False) { nx := fun _ => False, rt := fun d => d = .bl true } (.e :: .v false .row :: List.replicate (N.length - 2) .e)) : FnOk P w K mg base CX0 (k + 1) f fd [s0] (spLaw K) := by
  refine F.ok S (fun vs H Q E h => ?_) (fun cdv A outer s H vs Q E hroom h => ⟨_, hb cdv A outer s H E hroom, law_body hN hr (by rw [hK]; exact h)⟩)
  obtain ⟨a, ns, rfl, _⟩ := h
  rfl
end
end HD

set_option Elab.async false
set_option linter.all false
set_option maxRecDepth 100000
set_option maxHeartbeats 1000000
/-! min of a list of alike data; < of alike data -/
namespace HD
open PySem PySem.Spec PyProof.Rows L2
abbrev ltD (a b : D) : Bool := PySem.W.dataLt a.py b.py
theorem minD_least : ∀ (ys : List PyData) (x : PyData) (seen : List PyData), x ∈ seen → (∀ y ∈ seen, PySem.W.dataLt y x = false) →
    (ys.foldl (fun a y => if PySem.W.dataLt y a then y else a) x) ∈ seen ++ ys ∧ ∀ y ∈ seen ++ ys, PySem.W.dataLt y (ys.foldl (fun a y => if PySem.W.dataLt y a then y else a) x) = false
  | [], x, seen, h1, h2 => by simpa using ⟨h1, h2⟩
  | z :: ys, x, seen, h1, h2 => by
    have key : (if PySem.W.dataLt z x then z else x) ∈ seen ++ [z] ∧ ∀ y ∈ seen ++ [z], PySem.W.dataLt y (if PySem.W.dataLt z x then z else x) = false := by
      cases e : PySem.W.dataLt z x with
      | true =>
        refine ⟨by simp, fun y hy => ?_⟩
        simp only [if_true]
        rcases List.mem_append.mp hy with hy | hy
        · cases f : PySem.W.dataLt y z with
          | false => rfl
          | true => exact ((lex_trans _ _ _ f e : PySem.W.dataLt y x = true).symm.trans (h2 y hy))
        · rw [List.mem_singleton.mp hy]; exact lex_irrefl _
      | false =>
        refine ⟨by simp [h1], fun y hy => ?_⟩
        simp only [Bool.false_eq_true, if_false]
        rcases List.mem_append.mp hy with hy | hy
        · exact h2 y hy
        · rw [List.mem_singleton.mp hy]; exact e
    have := minD_least ys (if PySem.W.dataLt z x then z else x) (seen ++ [z]) key.1 key.2
    rw [List.append_assoc] at this
    exact this
theorem pys_map : ∀ ds : List D, D.pys ds = ds.map D.py
  | [] => by simp
  | d :: ds => by simp [pys_map ds]
theorem dpAll_depth {n : Nat} {ds : List D} (h : D.cmps n ds = true) : PyData.depthAll (D.pys ds) ≤ n := (cmps_lay n ds h).2
/-- what a list must be, for its least item to be asked -/
def Alk (ds : List D) : Prop := D.cmps 50 ds = true ∧ (∀ x ∈ ds, ∀ y ∈ ds, PySem.W.alike x.py y.py = true) ∧ ∀ x ∈ ds, x.py ≠ .none
def rdMinD : DRN := fun k ds Q => match ds with
  | [.lst ds] => ds ≠ [] ∧ Alk ds ∧ ∀ m, m ∈ ds → (∀ y, y ∈ ds → ltD y m = false) → Q k m
  | _ => False
section
variable {G : Gp} {X : Cx}
theorem cd_minD (hc : X.calm = true) (hu : X.A.units + 64 < cLine) : CallR X (.builtin "min") (cRn G rdMinD) := by
  intro pins s σ H xs us Qv I rs h
  obtain ⟨H0, r, M, Hs, k, ds, Q, c, q, r1, post⟩ := h
  unfold rdMinD at q
  split at q
  · rename_i ds
    obtain ⟨v, rfl, h⟩ := reps1 r1
    obtain ⟨a, xs, rfl, _, h1, h2⟩ := rep_lst h
    obtain ⟨hne, ⟨hcm, hal, hnn⟩, q⟩ := q
    obtain ⟨d, ds, rfl⟩ : ∃ d ds', ds = d :: ds' := by
      cases ds with
      | nil => exact absurd rfl hne
      | cons d ds => exact ⟨d, ds, rfl⟩
    obtain ⟨its, rv, hl, hz⟩ := I.list (SqL.of h1)
    rw [Vals.ref1 rs]
    obtain ⟨as, hr⟩ := Dp.readsAll I (D.pys (d :: ds)) xs its (reps_dp 50 _ _ hcm h2) rv
    have hpm : D.pys (d :: ds) = d.py :: ds.map D.py := by rw [pys_cons, pys_map]
    rw [hpm] at hr
    have hali : PySem.W.AlikeAll (d.py :: ds.map D.py) := by
      rw [← List.map_cons]
      refine ⟨fun x hx y hy => ?_, fun x hx => ?_⟩
      · obtain ⟨x', hx', rfl⟩ := List.mem_map.mp hx
        obtain ⟨y', hy', rfl⟩ := List.mem_map.mp hy
        exact hal x' hx' y' hy'
      · obtain ⟨x', hx', rfl⟩ := List.mem_map.mp hx
        exact hnn x' hx'
    have hdep := dpAll_depth hcm
    rw [hpm] at hdep
    refine PySem.W.min_list_data (I.ok.hd hc) hl.isList hr hali (by omega) fun i v h' tk bs hv hrd hk => ?_
    obtain ⟨bs2, hr2, hi, hm, _⟩ := PySem.W.readsAll_atA hr i v hv
    have hle := minD_least (ds.map D.py) d.py [d.py] (by simp) (fun y hy => by rw [List.mem_singleton.mp hy]; exact lex_irrefl _)
    have hmem : PySem.W.minD d.py (ds.map D.py) ∈ d.py :: ds.map D.py := hle.1
    have heq := PySem.W.alike_unique _ _ _ _ _ (hali.1 _ hm _ hmem) (PySem.W.reads_keeps hk hr2) hrd
    have hlen : i < (d :: ds).length := by simpa using hi
    have hdi : (d :: ds)[i]? = some (d :: ds)[i] := List.getElem?_eq_getElem hlen
    have hpi : (d.py :: ds.map D.py).getD i .none = ((d :: ds)[i]).py := by
      rw [← List.map_cons, List.getD_eq_getElem?_getD, List.getElem?_map, hdi]
      rfl
    obtain ⟨x, hx, rx⟩ := h2.get hdi
    have hrel : RelV x v := by
      have e1 : its[i]? = some v := by simpa using hv
      obtain ⟨u, hu1, hu2⟩ := rv.get hx
      rw [e1] at hu1
      cases hu1
      exact hu2
    have I2 : Inv X pins σ H { s with heap := h', toks := tk } := I.kept (t' := tk) fun b o e => hk b o e
    refine ⟨x, H, I2, hrel, post.old c (q _ (List.getElem_mem hlen) fun y hy => ?_) rx⟩
    show PySem.W.dataLt y.py ((d :: ds)[i]).py = false
    rw [← hpi, heq]
    exact hle.2 _ (by rw [List.singleton_append, ← List.map_cons]; exact List.mem_map.mpr ⟨y, hy, rfl⟩)
  · exact q.elim
def rdLtD : DR2 := fun _ d1 _ d2 Q => d1.cmp 50 = true ∧ d2.cmp 50 = true ∧ PySem.W.alike d1.py d2.py = true ∧ d1.py ≠ .none ∧ Q .fr (.bl (ltD d1 d2))
theorem od_ltD (hu : X.A.units + 64 < cLine) : OpR X (compareOp .Lt) (cR2 G rdLtD) := by
  intro pins s σ H x y v u Qv I rx ry h
  obtain ⟨H0, r, M, Hs, k1, d1, k2, d2, Q, c, q, r1, r2, post⟩ := h
  obtain ⟨as, h1⟩ := Dp.reads I d1.py x v (rep_dp 50 d1 x q.1 r1) rx
  obtain ⟨bs, h2⟩ := Dp.reads I d2.py y u (rep_dp 50 d2 y q.2.1 r2) ry
  have := (cmp_lay 50 d1 q.1).2
  refine PySem.W.lt_data h1 h2 q.2.2.1 q.2.2.2.1 (by have := Nat.min_le_left d1.py.depth d2.py.depth; omega) ⟨.bl _, H, I, rfl, post.old c q.2.2.2.2 rep_bl⟩
end
theorem s_minD {k ds} {Q : KQ} : rdMinD k [.lst ds] Q = (ds ≠ [] ∧ Alk ds ∧ ∀ m, m ∈ ds → (∀ y, y ∈ ds → ltD y m = false) → Q k m) := rfl
@[simp] theorem s_ltD {k1 d1 k2 d2} {Q : KQ} : rdLtD k1 d1 k2 d2 Q = (d1.cmp 50 = true ∧ d2.cmp 50 = true ∧ PySem.W.alike d1.py d2.py = true ∧ d1.py ≠ .none ∧ Q .fr (.bl (ltD d1 d2))) := rfl
end HD

set_option Elab.async false
set_option linter.all false
set_option maxRecDepth 100000
set_option maxHeartbeats 1000000
/-! lists changed by their methods, texts joined and split, ranges kept -/
namespace HD
open PySem PySem.Spec PyProof.Rows L2
theorem lt64 {n m : Nat} (h : n + 64 < m) : n + 1 < m := by omega
section
variable {G : Gp} {E : XK} {H0 H H' Hs : Hp} {r : Option Addr} {M P : Addr → Prop} {X : Cx} {σ : L2.St} {ρ : Rho} {γ : List Gh} {XX : Exn → Prop}
variable {x : Str} {i : Nat} {p1 apos cpos pos : Pos} {e e2 : Expr} {te tf : DTE}
def dClr (i : Nat) : DTS := fun XX DD ρ => ∃ n ds, ρ[i]? = some (.own n ds) ∧ DD.nx (ρ.set i (.own true []))
theorem psd_clear (hv : PE X (.Name x p1) (tVar i)) (hbase : attributeBase (.Name x p1) "clear" X.env (eval (.Name x p1) X.env) = eval (.Name x p1) X.env := by rfl) (hline : (apos.endLine == cpos.line) = true := by rfl)
    (hs2 : swapsWith (.Call (.Attribute (.Name x p1) "clear" apos) [] [] cpos) none pos.line X.env = pure false := by rfl) :
    PS X (.Expr (.Call (.Attribute (.Name x p1) "clear" apos) [] [] cpos) pos) (cS G E (dClr i)) :=
  ps_weak (ps_expr (pe_bm0 PySem.F.plainAttrs_list PySem.F.slot_list_clear PySem.F.type_list_clear mt_clear hv hbase hline) hs2) fun D σ H h => by
  obtain ⟨H0, r, γ, ρ, XX, DD, env, ⟨n, ds, h1, q⟩, hx, l⟩ := h
  obtain ⟨p, xs, hu, hp0, hp, hc⟩ := own_at env h1
  refine ⟨_, hu, .inl ⟨rfl, _, SqL.of hp⟩, p, xs, rfl, rfl, hp, l.nx _ _ _ (env.wr h1 hu (n' := true) .nil) q⟩
def dRvs (i : Nat) : DTS := fun XX DD ρ => ∃ n ds, ρ[i]? = some (.own n ds) ∧ DD.nx (ρ.set i (.own n ds.reverse))
theorem psd_reverse (hv : PE X (.Name x p1) (tVar i)) (hbase : attributeBase (.Name x p1) "reverse" X.env (eval (.Name x p1) X.env) = eval (.Name x p1) X.env := by rfl) (hline : (apos.endLine == cpos.line) = true := by rfl)
    (hs2 : swapsWith (.Call (.Attribute (.Name x p1) "reverse" apos) [] [] cpos) none pos.line X.env = pure false := by rfl) :
    PS X (.Expr (.Call (.Attribute (.Name x p1) "reverse" apos) [] [] cpos) pos) (cS G E (dRvs i)) :=
  ps_weak (ps_expr (pe_bm0 PySem.F.plainAttrs_list PySem.F.slot_list_reverse PySem.F.type_list_reverse mt_reverse hv hbase hline) hs2) fun D σ H h => by
  obtain ⟨H0, r, γ, ρ, XX, DD, env, ⟨n, ds, h1, q⟩, hx, l⟩ := h
  obtain ⟨p, xs, hu, hp0, hp, hc⟩ := own_at env h1
  exact ⟨_, hu, .inl ⟨rfl, _, SqL.of hp⟩, p, xs, rfl, rfl, hp, l.nx _ _ _ (env.wr h1 hu hc.reverse) q⟩
/-- xs.extend(e), e a list -/
def dExt (i : Nat) (te : DTE) : DTS := fun XX DD ρ => ∃ n ds, ρ[i]? = some (.own n ds) ∧ te XX ρ fun k d => ∃ es m, d = .lst es ∧ kn k = some m ∧ ds.length + es.length ≤ 100000 ∧ DD.nx (ρ.set i (.own (n && m) (ds ++ es)))
theorem psd_ext (hv : PE X (.Name x p1) (tVar i)) (he : PE X e (cE G E te)) (hbase : attributeBase (.Name x p1) "extend" X.env (eval (.Name x p1) X.env) = eval (.Name x p1) X.env := by rfl)
    (hfew : ((backTo cpos (starEach (e :: []) X.env)).all (fun x => !x.1) && (backToKw cpos (keywordEach [] X.env)).all (fun x => x.1.isSome)
      && decide ((e :: []).length + ([] : List Keyword).length + (if ([] : List Keyword).isEmpty then 0 else 1) < 30)) = true := by rfl)
    (hline : (apos.endLine == cpos.line) = true := by rfl) (hs : starEach (e :: []) X.env = (false, eval e X.env) :: starEach [] X.env := by rfl) (hplain : (backTo cpos (starEach [] X.env)).any (·.1) = false := by rfl)
    (hs2 : swapsWith (.Call (.Attribute (.Name x p1) "extend" apos) [e] [] cpos) none pos.line X.env = pure false := by rfl) :
    PS X (.Expr (.Call (.Attribute (.Name x p1) "extend" apos) [e] [] cpos) pos) (cS G E (dExt i te)) :=
  ps_weak (ps_expr (pe_bm PySem.F.plainAttrs_list PySem.F.slot_list_extend PySem.F.type_list_extend mt_extend hv (pa_cons he pa_nil hs) hbase hfew hline hs hplain) hs2) fun D σ H h => by
  obtain ⟨H0, r, γ, ρ, XX, DD, env, ⟨n, ds, h1, q⟩, hx, l⟩ := h
  obtain ⟨p, xs, hu, hp0, hp, hc⟩ := own_at env h1
  refine ⟨_, hu, .inl ⟨rfl, _, SqL.of hp⟩, ?_⟩
  refine cE_at (Now.start env) q hx fun v k d H1 ⟨es, m, hd, hm, hl, q1⟩ e1 N1 r1 => ?_
  subst hd
  obtain ⟨b, zs, rfl, _, hb, hz⟩ := rep_lst r1
  have c1 := N1.cxt
  have hp1 : H1 p = some (.lst xs) := e1.keep _ _ (c1.rne hp0) hp
  refine ⟨p, b, xs, zs, rfl, rfl, hp1, hb, sz_of (by rw [hc.length, hz.length]; exact hl), l.nx _ _ _ (N1.now.wr h1 hu ?_) q1⟩
  exact (Reps.mono env.row e1 (fun a q => ⟨nk_ne c1 q, nk_and q⟩) hc).append (hz.imp fun a q => nk_and' (nk_sub (H1 := H) (H2 := H1) (c1.kn hm q) : (nk m).P H0 r (Mo γ σ ρ) H1 a))
/-- xs.insert(e, f) -/
def dIns (i : Nat) (te tf : DTE) : DTS := fun XX DD ρ => ∃ n ds, ρ[i]? = some (.own n ds) ∧ ds.length < 100000 ∧ te XX ρ fun _ dj => ∃ j : Int, dj = .int j ∧ 0 ≤ j ∧ j < 2 ^ 63 ∧ tf XX ρ fun k d => ∃ m, stn k d = some m ∧ DD.nx (ρ.set i (.own (n && m) (ds.take j.toNat ++ [d] ++ ds.drop j.toNat)))
theorem psd_insert (hv : PE X (.Name x p1) (tVar i)) (he : PE X e (cE G E te)) (hf : PE X e2 (cE G E tf)) (hbase : attributeBase (.Name x p1) "insert" X.env (eval (.Name x p1) X.env) = eval (.Name x p1) X.env := by rfl)
    (hfew : ((backTo cpos (starEach (e :: [e2]) X.env)).all (fun x => !x.1) && (backToKw cpos (keywordEach [] X.env)).all (fun x => x.1.isSome)
      && decide ((e :: [e2]).length + ([] : List Keyword).length + (if ([] : List Keyword).isEmpty then 0 else 1) < 30)) = true := by rfl)
    (hline : (apos.endLine == cpos.line) = true := by rfl) (hs : starEach (e :: [e2]) X.env = (false, eval e X.env) :: starEach [e2] X.env := by rfl) (hsb : starEach (e2 :: []) X.env = (false, eval e2 X.env) :: starEach [] X.env := by rfl) (hplain : (backTo cpos (starEach [e2] X.env)).any (·.1) = false := by rfl)
    (hs2 : swapsWith (.Call (.Attribute (.Name x p1) "insert" apos) [e, e2] [] cpos) none pos.line X.env = pure false := by rfl) :
    PS X (.Expr (.Call (.Attribute (.Name x p1) "insert" apos) [e, e2] [] cpos) pos) (cS G E (dIns i te tf)) :=
  ps_weak (ps_expr (pe_bm PySem.F.plainAttrs_list PySem.F.slot_list_insert PySem.F.type_list_insert mt_insert hv (pa_cons he (pa_cons hf pa_nil hsb) hs) hbase hfew hline hs hplain) hs2) fun D σ H h => by
  obtain ⟨H0, r, γ, ρ, XX, DD, env, ⟨n, ds, h1, hl, q⟩, hx, l⟩ := h
  obtain ⟨p, xs, hu, hp0, hp, hc⟩ := own_at env h1
  refine ⟨_, hu, .inl ⟨rfl, _, SqL.of hp⟩, ?_⟩
  refine cE_at (Now.start env) q hx fun v k d H1 ⟨j, hd, hj0, hj1, q1⟩ e1 N1 r1 => ?_
  subst hd
  cases rep_i r1
  refine cE_at N1 q1 hx fun v2 k2 d2 H2 ⟨m, hm, q2⟩ e2 N2 r2 => ?_
  have c2 := N2.cxt
  have hp2 : H2 p = some (.lst xs) := N2.ex.keep _ _ (c2.rne hp0) hp
  refine ⟨p, xs, j, v2, rfl, rfl, hp2, sz_lt (by rw [hc.length]; exact hl), hj0, hj1, l.nx _ _ _ (N2.now.wr h1 hu ?_) q2⟩
  have hc2 := Reps.mono env.row N2.ex (fun a q => ⟨nk_ne c2 q, nk_and (m := m) (H' := H2) q⟩) hc
  exact ((hc2.take _).append (.one ((c2.stn hm r2).imp fun a q => nk_and' q))).append (hc2.drop _)
/-- xs.pop(e), the answer let go -/
def dPopx (i : Nat) (te : DTE) : DTS := fun XX DD ρ => ∃ n ds, ρ[i]? = some (.own n ds) ∧ te XX ρ fun _ dj => ∃ j : Nat, dj = .int j ∧ j < ds.length ∧ ds.length ≤ 100000 ∧ DD.nx (ρ.set i (.own n (ds.eraseIdx j)))
theorem Reps.erase {P : Addr → Prop} : ∀ {ds : List D} {xs : List V} (j : Nat), Reps G r P H ds xs → Reps G r P H (ds.eraseIdx j) (xs.eraseIdx j)
  | [], _, _, h => by unfold Reps at h; subst h; exact .nil
  | d :: ds, _, 0, h => by
    unfold Reps at h
    obtain ⟨x, zs, rfl, h1, h2⟩ := h
    exact h2
  | d :: ds, _, j + 1, h => by
    unfold Reps at h
    obtain ⟨x, zs, rfl, h1, h2⟩ := h
    exact .cons h1 (Reps.erase j h2)
theorem psd_popx (hv : PE X (.Name x p1) (tVar i)) (he : PE X e (cE G E te)) (hbase : attributeBase (.Name x p1) "pop" X.env (eval (.Name x p1) X.env) = eval (.Name x p1) X.env := by rfl)
    (hfew : ((backTo cpos (starEach (e :: []) X.env)).all (fun x => !x.1) && (backToKw cpos (keywordEach [] X.env)).all (fun x => x.1.isSome)
      && decide ((e :: []).length + ([] : List Keyword).length + (if ([] : List Keyword).isEmpty then 0 else 1) < 30)) = true := by rfl)
    (hline : (apos.endLine == cpos.line) = true := by rfl) (hs : starEach (e :: []) X.env = (false, eval e X.env) :: starEach [] X.env := by rfl) (hplain : (backTo cpos (starEach [] X.env)).any (·.1) = false := by rfl)
    (hs2 : swapsWith (.Call (.Attribute (.Name x p1) "pop" apos) [e] [] cpos) none pos.line X.env = pure false := by rfl) :
    PS X (.Expr (.Call (.Attribute (.Name x p1) "pop" apos) [e] [] cpos) pos) (cS G E (dPopx i te)) :=
  ps_weak (ps_expr (pe_bm PySem.F.plainAttrs_list PySem.F.slot_list_pop PySem.F.type_list_pop mt_popAt hv (pa_cons he pa_nil hs) hbase hfew hline hs hplain) hs2) fun D σ H h => by
  obtain ⟨H0, r, γ, ρ, XX, DD, env, ⟨n, ds, h1, q⟩, hx, l⟩ := h
  obtain ⟨p, xs, hu, hp0, hp, hc⟩ := own_at env h1
  refine ⟨_, hu, .inl ⟨rfl, _, SqL.of hp⟩, ?_⟩
  refine cE_at (Now.start env) q hx fun v k d H1 ⟨j, hd, hj, hl, q1⟩ e1 N1 r1 => ?_
  subst hd
  cases rep_i r1
  have c1 := N1.cxt
  have hp1 : H1 p = some (.lst xs) := e1.keep _ _ (c1.rne hp0) hp
  have hjx : j < xs.length := by rw [hc.length]; exact hj
  refine ⟨p, xs, _, j, xs[j], rfl, rfl, hp1, by omega, by omega, ?_, List.getElem?_eq_getElem hjx, l.nx _ _ _ (N1.now.wr h1 hu ((Reps.mono env.row e1 (fun a q => ⟨nk_ne c1 q, nk_sub' q⟩) hc).erase j)) q1⟩
  · unfold seqIndex?
    simp [hjx]
    try omega
where
  nk_sub' {n : Bool} {H0 H1 H2 : Hp} {r : Option Addr} {M : Addr → Prop} {a : Addr} (h : (nk n).P H0 r M H1 a) : (nk n).P H0 r M H2 a := nk_sub h
/-- 'a'.join(e), e a list of texts -/
def dJoin (da te : DTE) : DTE := fun XX ρ Q => da XX ρ fun _ d => ∃ a : Str, d = .str a ∧ te XX ρ fun _ y => ∃ ys : List Str, y = .lst (ys.map .str) ∧ (ys.map (·.length)).sum + ys.length * a.length ≤ 16777216 ∧ Q .fr (.str (Txt.join a ys))
theorem pd_join {o : Expr} {da : DTE} (ho : PE X o (cE G E da)) (he : PE X e (cE G E te)) (hs : starEach [e] X.env = [(false, eval e X.env)] := by rfl) (hbase : attributeBase o "join" X.env (eval o X.env) = eval o X.env := by rfl) (hline : (apos.endLine == pos.line) = true := by rfl) :
    PE X (.Call (.Attribute o "join" apos) [e] [] pos) (cE G E (dJoin da te)) := pe_weak (pe_join ho he hs hbase hline) fun σ H Qv h => by
  obtain ⟨H0, r, γ, ρ, XX, Q, env, q, hx, post⟩ := h
  refine cE_at (Now.start env) q hx fun v k d H1 ⟨a, hd, q1⟩ e1 N1 r1 => ?_
  subst hd
  refine ⟨⟨a, rep_s r1⟩, cE_at N1 q1 hx fun v2 k2 d2 H2 ⟨ys, hd, hz, q2⟩ e2 N2 r2 => ?_⟩
  subst hd
  obtain ⟨b, zs, rfl, _, hb, hz2⟩ := rep_lst r2
  rw [hz2.strs] at hb
  exact ⟨a, b, ys, rep_s r1, rfl, .inl (SqL.of hb), hz, post _ _ _ _ q2 N2.ex N2.row rep_str⟩
/-- o.split(e) -/
def dSplit (da te : DTE) : DTE := fun XX ρ Q => da XX ρ fun _ d => ∃ a : Str, d = .str a ∧ te XX ρ fun _ y => ∃ b : Str, y = .str b ∧ (b.length == 0) = false ∧ a.length ≤ 100000 ∧ Q .fr (.lst ((Txt.split a b).map .str))
theorem pd_split {o : Expr} {da : DTE} (ho : PE X o (cE G E da)) (he : PE X e (cE G E te)) (hs : starEach [e] X.env = [(false, eval e X.env)] := by rfl) (hbase : attributeBase o "split" X.env (eval o X.env) = eval o X.env := by rfl) (hline : (apos.endLine == pos.line) = true := by rfl) :
    PE X (.Call (.Attribute o "split" apos) [e] [] pos) (cE G E (dSplit da te)) := pe_weak (pe_split ho he hs hbase hline) fun σ H Qv h => by
  obtain ⟨H0, r, γ, ρ, XX, Q, env, q, hx, post⟩ := h
  refine cE_at (Now.start env) q hx fun v k d H1 ⟨a, hd, q1⟩ e1 N1 r1 => ?_
  subst hd
  refine ⟨⟨a, rep_s r1⟩, cE_at N1 q1 hx fun v2 k2 d2 H2 ⟨b, hd, hb, hl, q2⟩ e2 N2 r2 => ?_⟩
  subst hd
  refine ⟨a, b, rep_s r1, congrArg (fun z => [z]) (rep_s r2), hb, by have := sizeLine_eq; omega, fun p hp => ?_⟩
  refine post _ .fr _ _ q2 (N2.ex.trans (.new hp)) (N2.row.new hp) ?_
  unfold Rep
  exact ⟨p, _, rfl, N2.ex.there _ hp, upd_same, Reps.of_strs⟩
/-- list(range(e)), tuple(range(e)) -/
theorem reps_rgV {a b : Int} {P : Addr → Prop} : Reps G r P H (rgD a (b - a).toNat) (rgV a b) := by
  have e1 : rgD a (b - a).toNat = ((List.range (b - a).toNat).map fun (i : Nat) => a + (i : Int)).map D.int := by
    unfold rgD
    rw [List.map_map]
    rfl
  have e2 : rgV a b = ((List.range (b - a).toNat).map fun (i : Nat) => a + (i : Int)).map V.int := by
    unfold rgV
    rw [List.map_map]
    rfl
  rw [e1, e2]
  exact Reps.of_ints
def dLstRg (te : DTE) : DTE := fun XX ρ Q => te XX ρ fun _ d => ∃ n : Int, d = .int n ∧ 0 ≤ n ∧ n ≤ 100000 ∧ Q .fr (.lst (rgD 0 n.toNat))
def dTupRg (te : DTE) : DTE := fun XX ρ Q => te XX ρ fun _ d => ∃ n : Int, d = .int n ∧ 0 ≤ n ∧ n ≤ 100000 ∧ Q .fr (.tup (rgD 0 n.toNat))
theorem pd_listRg {p p2 q2 : Pos} (hc : X.calm = true) (hg : Gl X "list") (hm : X.mg "list" = none) (hg2 : Gl X "range") (hm2 : X.mg "range" = none) (he : PE X e (cE G E te)) (na : starEach [e] X.env = (false, eval e X.env) :: starEach [] X.env := by rfl)
    (na2 : starEach [Expr.Call (.Name "range" p2) [e] [] q2] X.env = (false, eval (.Call (.Name "range" p2) [e] [] q2) X.env) :: starEach [] X.env := by rfl) : PE X (.Call (.Name "list" p) [.Call (.Name "range" p2) [e] [] q2] [] pos) (cE G E (dLstRg te)) :=
  pe_weak (pe_listRg hc hg hm (prg_1 hg2 hm2 he na) na2) fun σ H Qv h => by
  obtain ⟨H0, r, γ, ρ, XX, Q, env, q, hx, post⟩ := h
  refine cE_at (Now.start env) q hx fun v k d H1 ⟨n, hd, h0, h1, q1⟩ e1 N1 r1 => ?_
  subst hd
  refine ⟨n, rep_i r1, RgOk.of_le (by decide) (by omega) (by decide) h0, fun p hp => ?_⟩
  refine post _ .fr _ _ q1 (N1.ex.trans (.new hp)) (N1.row.new hp) ?_
  unfold Rep
  have := reps_rgV (G := G) (r := r) (H := upd H1 p (.lst (rgV 0 n))) (a := 0) (b := n) (P := Kd.P H0 r (Mo γ σ ρ) H .fr)
  rw [Int.sub_zero] at this
  exact ⟨p, _, rfl, N1.ex.there _ hp, upd_same, this⟩
theorem pd_tupRg {p p2 q2 : Pos} (hc : X.calm = true) (hg : Gl X "tuple") (hm : X.mg "tuple" = none) (hg2 : Gl X "range") (hm2 : X.mg "range" = none) (he : PE X e (cE G E te)) (na : starEach [e] X.env = (false, eval e X.env) :: starEach [] X.env := by rfl)
    (na2 : starEach [Expr.Call (.Name "range" p2) [e] [] q2] X.env = (false, eval (.Call (.Name "range" p2) [e] [] q2) X.env) :: starEach [] X.env := by rfl) : PE X (.Call (.Name "tuple" p) [.Call (.Name "range" p2) [e] [] q2] [] pos) (cE G E (dTupRg te)) :=
  pe_weak (pe_tupRg hc hg hm (prg_1 hg2 hm2 he na) na2) fun σ H Qv h => by
  obtain ⟨H0, r, γ, ρ, XX, Q, env, q, hx, post⟩ := h
  refine cE_at (Now.start env) q hx fun v k d H1 ⟨n, hd, h0, h1, q1⟩ e1 N1 r1 => ?_
  subst hd
  refine ⟨n, rep_i r1, RgOk.of_le (by decide) (by omega) (by decide) h0, fun p hp => ?_⟩
  refine post _ .fr _ _ q1 (N1.ex.trans (.new hp)) (N1.row.new hp) ?_
  unfold Rep
  have := reps_rgV (G := G) (r := r) (H := upd H1 p (.tup (rgV 0 n))) (a := 0) (b := n) (P := Kd.P H0 r (Mo γ σ ρ) H .fr)
  rw [Int.sub_zero] at this
  exact ⟨p, _, rfl, upd_same, this⟩
end
section
variable {XX : Exn → Prop} {DD : DEnds} {ρ : Rho} {Q : KQ}
@[simp] theorem s_dClr {i} : dClr i XX DD ρ = ∃ n ds, ρ[i]? = some (.own n ds) ∧ DD.nx (ρ.set i (.own true [])) := rfl
@[simp] theorem s_dRvs {i} : dRvs i XX DD ρ = ∃ n ds, ρ[i]? = some (.own n ds) ∧ DD.nx (ρ.set i (.own n ds.reverse)) := rfl
@[simp] theorem s_dExt {i te} : dExt i te XX DD ρ = ∃ n ds, ρ[i]? = some (.own n ds) ∧ te XX ρ fun k d => ∃ es m, d = .lst es ∧ kn k = some m ∧ ds.length + es.length ≤ 100000 ∧ DD.nx (ρ.set i (.own (n && m) (ds ++ es))) := rfl
@[simp] theorem s_dIns {i te tf} : dIns i te tf XX DD ρ = ∃ n ds, ρ[i]? = some (.own n ds) ∧ ds.length < 100000 ∧ te XX ρ fun _ dj => ∃ j : Int, dj = .int j ∧ 0 ≤ j ∧ j < 2 ^ 63 ∧ tf XX ρ fun k d => ∃ m, stn k d = some m ∧ DD.nx (ρ.set i (.own (n && m) (ds.take j.toNat ++ [d] ++ ds.drop j.toNat))) := rfl
@[simp] theorem s_dPopx {i te} : dPopx i te XX DD ρ = ∃ n ds, ρ[i]? = some (.own n ds) ∧ te XX ρ fun _ dj => ∃ j : Nat, dj = .int j ∧ j < ds.length ∧ ds.length ≤ 100000 ∧ DD.nx (ρ.set i (.own n (ds.eraseIdx j))) := rfl
@[simp] theorem s_dJoin {da te} : dJoin da te XX ρ Q = da XX ρ fun _ d => ∃ a : Str, d = .str a ∧ te XX ρ fun _ y => ∃ ys : List Str, y = .lst (ys.map .str) ∧ (ys.map (·.length)).sum + ys.length * a.length ≤ 16777216 ∧ Q .fr (.str (Txt.join a ys)) := rfl
@[simp] theorem s_dSplit {da te} : dSplit da te XX ρ Q = da XX ρ fun _ d => ∃ a : Str, d = .str a ∧ te XX ρ fun _ y => ∃ b : Str, y = .str b ∧ (b.length == 0) = false ∧ a.length ≤ 100000 ∧ Q .fr (.lst ((Txt.split a b).map .str)) := rfl
@[simp] theorem s_dLstRg {te} : dLstRg te XX ρ Q = te XX ρ fun _ d => ∃ n : Int, d = .int n ∧ 0 ≤ n ∧ n ≤ 100000 ∧ Q .fr (.lst (rgD 0 n.toNat)) := rfl
@[simp] theorem s_dTupRg {te} : dTupRg te XX ρ Q = te XX ρ fun _ d => ∃ n : Int, d = .int n ∧ 0 ≤ n ∧ n ≤ 100000 ∧ Q .fr (.tup (rgD 0 n.toNat)) := rfl
end
end HD

set_option Elab.async false
set_option linter.all false
set_option maxRecDepth 100000
set_option maxHeartbeats 1000000
/-! readings of the defs -/
namespace HD
open PySem PySem.Spec PyProof.Rows L2
def dsp1 (R : D → (D → Prop) → Prop) : DSp := fun _ ds Q => ∃ a, ds = [a] ∧ R a Q
def dsp2 (R : D → D → (D → Prop) → Prop) : DSp := fun _ ds Q => ∃ a b, ds = [a, b] ∧ R a b Q
def dsp3 (R : D → D → D → (D → Prop) → Prop) : DSp := fun _ ds Q => ∃ a b c, ds = [a, b, c] ∧ R a b c Q
def dsp4 (R : D → D → D → D → (D → Prop) → Prop) : DSp := fun _ ds Q => ∃ a b c e, ds = [a, b, c, e] ∧ R a b c e Q
section
variable {XX : Exn → Prop} {Q : D → Prop} {ds : List D}
@[simp] theorem s_dsp1 {R a} : dsp1 R XX [a] Q = R a Q := propext ⟨fun ⟨_, e, h⟩ => by cases e; exact h, fun h => ⟨_, rfl, h⟩⟩
@[simp] theorem s_dsp2 {R a b} : dsp2 R XX [a, b] Q = R a b Q := propext ⟨fun ⟨_, _, e, h⟩ => by cases e; exact h, fun h => ⟨_, _, rfl, h⟩⟩
@[simp] theorem s_dsp3 {R a b c} : dsp3 R XX [a, b, c] Q = R a b c Q := propext ⟨fun ⟨_, _, _, e, h⟩ => by cases e; exact h, fun h => ⟨_, _, _, rfl, h⟩⟩
@[simp] theorem s_dsp4 {R a b c d} : dsp4 R XX [a, b, c, d] Q = R a b c d Q := propext ⟨fun ⟨_, _, _, _, e, h⟩ => by cases e; exact h, fun h => ⟨_, _, _, _, rfl, h⟩⟩
theorem len1 {R} (h : dsp1 R XX ds Q) : ds.length = 1 := by obtain ⟨_, rfl, _⟩ := h; rfl
theorem len2 {R} (h : dsp2 R XX ds Q) : ds.length = 2 := by obtain ⟨_, _, rfl, _⟩ := h; rfl
theorem len3 {R} (h : dsp3 R XX ds Q) : ds.length = 3 := by obtain ⟨_, _, _, rfl, _⟩ := h; rfl
theorem len4 {R} (h : dsp4 R XX ds Q) : ds.length = 4 := by obtain ⟨_, _, _, _, rfl, _⟩ := h; rfl
end
/-- how a reading is told of a def -/
abbrev Rd (n : Nat) (f : DSp) (b : DTS) : Prop := ∀ XX ds Q, f XX ds Q → b XX { nx := fun _ => Q .non, rt := Q } (ini n ds)
/-! ### data -/
def tints (ns : List Int) : D := .tup (ns.map .int)
@[simp] theorem flat_tints {ns} : (tints ns).flat = true := by simp [tints]
@[simp] theorem cmp_tints {ns} {n} : (tints ns).cmp (n + 1) = true := by simp [tints]
@[simp] theorem eq_tints {a b : List Int} : deq (tints a) (tints b) = decide (a = b) := by simp [tints]
structure Face where
  name : Str
  rank : Int
  signs : List Int
def eF (f : Face) : D := .tup [.str f.name, .int f.rank, tints f.signs]
@[simp] theorem flat_eF {f} : (eF f).flat = true := by simp [eF]
def eN (n : Nat) : D := .int n
def eL (l : List Nat) : D := .lst (l.map eN)
def eO : Option Nat → D
  | none => .non
  | some n => .int n
@[simp] theorem eO_none : eO none = .non := rfl
@[simp] theorem eO_some {n} : eO (some n) = eN n := rfl
@[simp] theorem e_nN {n} : deq .non (eN n) = false := by simp [eN]
@[simp] theorem e_Nn {n} : deq (eN n) .non = false := by simp [eN]
@[simp] theorem flat_eN {n} : (eN n).flat = true := rfl
@[simp] theorem flat_eO {n} : (eO n).flat = true := by cases n <;> rfl
@[simp] theorem cmp_eN {n k} : (eN n).cmp k = true := by simp [eN]
@[simp] theorem cmp_eO {n k} : (eO n).cmp k = true := by cases n <;> simp [eO]
@[simp] theorem scl_eN {n} : (eN n).scl = true := rfl
@[simp] theorem scl_eO {n} : (eO n).scl = true := by cases n <;> rfl
@[simp] theorem eq_eN {a b} : deq (eN a) (eN b) = decide (a = b) := by
  simp only [eN, e_ii]
  rw [Bool.eq_iff_iff]
  simp
  omega
@[simp] theorem eq_eO {a b} : deq (eO a) (eO b) = decide (a = b) := by
  cases a <;> cases b <;> simp only [eO, e_ii, e_nn, e_ni, e_in]
  · rfl
  · rfl
  · rfl
  · rw [Bool.eq_iff_iff]; simp; omega
theorem eF_inj {a b : Face} (h : eF a = eF b) : a = b := by
  cases a; cases b
  simp [eF, tints] at h
  simp [h]
theorem eN_inj {a b : Nat} (h : eN a = eN b) : a = b := by
  simp [eN] at h
  omega
theorem eO_inj {a b : Option Nat} (h : eO a = eO b) : a = b := by
  cases a <;> cases b <;> simp [eO] at h ⊢
  omega
theorem tints_inj {a b : List Int} (h : tints a = tints b) : a = b := by
  simp [tints] at h
  exact h
@[simp] theorem mapF_inj {a b : List Face} : a.map eF = b.map eF ↔ a = b := map_inj' fun _ _ => eF_inj
@[simp] theorem mapN_inj {a b : List Nat} : a.map eN = b.map eN ↔ a = b := map_inj' fun _ _ => eN_inj
@[simp] theorem mapO_inj {a b : List (Option Nat)} : a.map eO = b.map eO ↔ a = b := map_inj' fun _ _ => eO_inj
@[simp] theorem mapt_inj {a b : List (List Int)} : a.map tints = b.map tints ↔ a = b := map_inj' fun _ _ => tints_inj
theorem eL_inj {a b : List Nat} (h : eL a = eL b) : a = b := by
  simp [eL] at h
  exact h
@[simp] theorem mapL_inj {a b : List (List Nat)} : a.map eL = b.map eL ↔ a = b := map_inj' fun _ _ => eL_inj
@[simp] theorem eNi {a b : Nat} : eN a = eN b ↔ a = b := ⟨eN_inj, fun h => by rw [h]⟩
@[simp] theorem eOi {a b : Option Nat} : eO a = eO b ↔ a = b := ⟨eO_inj, fun h => by rw [h]⟩
@[simp] theorem eLi {a b : List Nat} : eL a = eL b ↔ a = b := ⟨eL_inj, fun h => by rw [h]⟩
@[simp] theorem tni {a b : List Int} : tints a = tints b ↔ a = b := ⟨tints_inj, fun h => by rw [h]⟩
@[simp] theorem eFi {a b : Face} : eF a = eF b ↔ a = b := ⟨eF_inj, fun h => by rw [h]⟩
@[simp] theorem fsF {l : List Face} : D.flats (l.map eF) = true := flats_map (fun _ => flat_eF) l
@[simp] theorem fsN {l : List Nat} : D.flats (l.map eN) = true := flats_map (fun _ => flat_eN) l
@[simp] theorem fsO {l : List (Option Nat)} : D.flats (l.map eO) = true := flats_map (fun _ => flat_eO) l
@[simp] theorem fst {l : List (List Int)} : D.flats (l.map tints) = true := flats_map (fun _ => flat_tints) l
@[simp] theorem csN {n} {l : List Nat} : D.cmps n (l.map eN) = true := cmps_map (fun _ => cmp_eN) l
@[simp] theorem csO {n} {l : List (Option Nat)} : D.cmps n (l.map eO) = true := cmps_map (fun _ => cmp_eO) l
@[simp] theorem cst {n} {l : List (List Int)} : D.cmps (n + 1) (l.map tints) = true := cmps_map (fun _ => cmp_tints) l
@[simp] theorem cst59 {l : List (List Int)} : D.cmps 59 (l.map tints) = true := cst
@[simp] theorem esN {a b : List Nat} : deqs (a.map eN) (b.map eN) = decide (a = b) := es_map (fun _ _ => eq_eN) a b
@[simp] theorem esO {a b : List (Option Nat)} : deqs (a.map eO) (b.map eO) = decide (a = b) := es_map (fun _ _ => eq_eO) a b
@[simp] theorem est {a b : List (List Int)} : deqs (a.map tints) (b.map tints) = decide (a = b) := es_map (fun _ _ => eq_tints) a b
@[simp] theorem eqL {a b : List Nat} : deq (eL a) (eL b) = decide (a = b) := by simp [eL]
@[simp] theorem cmL {a : List Nat} {n} : (eL a).cmp (n + 1) = true := by simp [eL]
@[simp] theorem cmL60 {a : List Nat} : (eL a).cmp 60 = true := cmL
@[simp] theorem cmt60 {a : List Int} : (tints a).cmp 60 = true := cmp_tints
/-! ### places in lists -/
theorem atI_nat {α : Type} {l : List α} {j : Nat} (h : j < l.length) : atI l (j : Int) = some l[j] := by
  unfold atI
  rw [ixN_nat h]
  exact List.getElem?_eq_getElem h
@[simp] theorem atI_0 {α : Type} {a : α} {l : List α} : atI (a :: l) 0 = some a := atI_nat (l := a :: l) (j := 0) (by simp)
@[simp] theorem atI_1 {α : Type} {a b : α} {l : List α} : atI (a :: b :: l) 1 = some b := atI_nat (l := a :: b :: l) (j := 1) (by simp)
@[simp] theorem atI_2 {α : Type} {a b c : α} {l : List α} : atI (a :: b :: c :: l) 2 = some c := atI_nat (l := a :: b :: c :: l) (j := 2) (by simp)
@[simp] theorem atI_3 {α : Type} {a b c d : α} {l : List α} : atI (a :: b :: c :: d :: l) 3 = some d := atI_nat (l := a :: b :: c :: d :: l) (j := 3) (by simp)
theorem atI_last {α : Type} {l : List α} (h : l ≠ []) : atI l (-1) = l.getLast? := by
  have h0 : 0 < l.length := List.length_pos_iff.mpr h
  unfold atI
  rw [ixN_last h0]
  show l[l.length - 1]? = _
  rw [List.getLast?_eq_getElem?]
/-! ### kinds asked -/
@[simp] theorem kb_NoneType_tuple : kitB "NoneType" "tuple" = some false := by decide +kernel
@[simp] theorem kb_NoneType_list : kitB "NoneType" "list" = some false := by decide +kernel
@[simp] theorem kb_NoneType_bool : kitB "NoneType" "bool" = some false := by decide +kernel
@[simp] theorem kb_NoneType_str : kitB "NoneType" "str" = some false := by decide +kernel
@[simp] theorem kb_NoneType_int : kitB "NoneType" "int" = some false := by decide +kernel
@[simp] theorem kb_bool_tuple : kitB "bool" "tuple" = some false := by decide +kernel
@[simp] theorem kb_bool_list : kitB "bool" "list" = some false := by decide +kernel
@[simp] theorem kb_bool_bool : kitB "bool" "bool" = some true := by decide +kernel
@[simp] theorem kb_bool_str : kitB "bool" "str" = some false := by decide +kernel
@[simp] theorem kb_bool_int : kitB "bool" "int" = some true := by decide +kernel
@[simp] theorem kb_int_tuple : kitB "int" "tuple" = some false := by decide +kernel
@[simp] theorem kb_int_list : kitB "int" "list" = some false := by decide +kernel
@[simp] theorem kb_int_bool : kitB "int" "bool" = some false := by decide +kernel
@[simp] theorem kb_int_str : kitB "int" "str" = some false := by decide +kernel
@[simp] theorem kb_int_int : kitB "int" "int" = some true := by decide +kernel
@[simp] theorem kb_str_tuple : kitB "str" "tuple" = some false := by decide +kernel
@[simp] theorem kb_str_list : kitB "str" "list" = some false := by decide +kernel
@[simp] theorem kb_str_bool : kitB "str" "bool" = some false := by decide +kernel
@[simp] theorem kb_str_str : kitB "str" "str" = some true := by decide +kernel
@[simp] theorem kb_str_int : kitB "str" "int" = some false := by decide +kernel
@[simp] theorem kb_tuple_tuple : kitB "tuple" "tuple" = some true := by decide +kernel
@[simp] theorem kb_tuple_list : kitB "tuple" "list" = some false := by decide +kernel
@[simp] theorem kb_tuple_bool : kitB "tuple" "bool" = some false := by decide +kernel
@[simp] theorem kb_tuple_str : kitB "tuple" "str" = some false := by decide +kernel
@[simp] theorem kb_tuple_int : kitB "tuple" "int" = some false := by decide +kernel
@[simp] theorem kb_list_tuple : kitB "list" "tuple" = some false := by decide +kernel
@[simp] theorem kb_list_list : kitB "list" "list" = some true := by decide +kernel
@[simp] theorem kb_list_bool : kitB "list" "bool" = some false := by decide +kernel
@[simp] theorem kb_list_str : kitB "list" "str" = some false := by decide +kernel
@[simp] theorem kb_list_int : kitB "list" "int" = some false := by decide +kernel
@[simp] theorem dq_nn : dEqS .non .non = true := rfl
@[simp] theorem dq_ii {i j : Int} : dEqS (.int i) (.int j) = decide (i = j) := by show (i == j) = _; rw [Bool.eq_iff_iff]; simp
@[simp] theorem dq_ss {i j : Str} : dEqS (.str i) (.str j) = decide (i = j) := by show (i == j) = _; rw [Bool.eq_iff_iff]; simp
@[simp] theorem dq_ni {i : Int} : dEqS .non (.int i) = false := rfl
@[simp] theorem dq_in {i : Int} : dEqS (.int i) .non = false := rfl
@[simp] theorem dq_sn {i : Str} : dEqS (.str i) .non = false := rfl
@[simp] theorem dq_bn {i : Bool} : dEqS (.bl i) .non = false := rfl
@[simp] theorem dq_NN {i j : Nat} : dEqS (eN i) (eN j) = decide (i = j) := by simp only [eN, dq_ii]; rw [Bool.eq_iff_iff]; simp; omega
@[simp] theorem dq_Nn {i : Nat} : dEqS (eN i) .non = false := rfl
@[simp] theorem dq_OO {i j : Option Nat} : dEqS (eO i) (eO j) = decide (i = j) := by
  cases i <;> cases j <;> simp only [eO, dq_nn, dq_ni, dq_in, dq_ii]
  · rfl
  · rfl
  · rfl
  · rw [Bool.eq_iff_iff]; simp; omega
@[simp] theorem ty_non : D.ty .non = some "NoneType" := rfl
@[simp] theorem ty_bl {b} : D.ty (.bl b) = some "bool" := rfl
@[simp] theorem ty_int {b} : D.ty (.int b) = some "int" := rfl
@[simp] theorem ty_str {b} : D.ty (.str b) = some "str" := rfl
@[simp] theorem ty_tup {b} : D.ty (.tup b) = some "tuple" := rfl
@[simp] theorem ty_lst {b} : D.ty (.lst b) = some "list" := rfl
end HD

set_option Elab.async false
set_option linter.all false
set_option maxRecDepth 100000
set_option maxHeartbeats 1000000
/-! readings: the law's compare; clusters; faces -/
namespace HD
open PySem PySem.Spec PyProof.Rows L2
-- _law_alike(_law_found, _law_due): 0 _law_found 1 _law_due 2 _law_k
@[reducible] def b_alike (fn : DSp) : DTS :=
  (dSeq (dIfS (dOr (dB (dIsi "tuple" (dVar 1))) (dB (dIsi "list" (dVar 1)))) (dSeq (dIfS (dOr (dB (dOp rdNe (dIsi "tuple" (dVar 0)) (dIsi "tuple" (dVar 1)))) (dNot (dB (dIsi2 "tuple" "list" (dVar 0))))) (dRet (dC (.bl false))) dNext)
    (dSeq (dIfS (dB (dOp rdNe (dCB rdLen (dCons (dVar 0) dNil)) (dCB rdLen (dCons (dVar 1) dNil)))) (dRet (dC (.bl false))) dNext)
    (dRet (dOp rdEq (dLc (diRg1 (dCons (dCB rdLen (dCons (dVar 1) dNil)) dNil)) (dgName 2) (dNot (dB (dCall fn (dCons (dOp rdIx (dVar 0) (dVar 2)) (dCons (dOp rdIx (dVar 1) (dVar 2)) dNil))))) (dVar 2) [2]) (dLst dNil))))) dNext)
    (dSeq (dIfS (dOr (dB (dOp rdIs (dVar 1) (dC .non))) (dB (dOp rdIs (dVar 0) (dC .non)))) (dRet (dAndV (dOp rdIs (dVar 1) (dC .non)) (dOp rdIs (dVar 0) (dC .non)))) dNext)
    (dSeq (dIfS (dOr (dB (dIsi "bool" (dVar 1))) (dB (dIsi "bool" (dVar 0)))) (dRet (dAndV (dIsi "bool" (dVar 1)) (dAndV (dIsi "bool" (dVar 0)) (dOp rdEq (dVar 0) (dVar 1))))) dNext)
    (dSeq (dIfS (dB (dIsi "str" (dVar 1))) (dRet (dAndV (dIsi "str" (dVar 0)) (dOp rdEq (dVar 0) (dVar 1)))) dNext)
    (dRet (dAndV (dIsi "int" (dVar 0)) (dOp rdEq (dVar 0) (dVar 1))))))))
def alkD : Nat → D → Bool
  | _, .non => true
  | _, .bl _ => true
  | _, .int _ => true
  | _, .str s => PyData.strOk s
  | n + 1, .tup ds => decide (ds.length ≤ 100000) && ds.all (alkD n)
  | n + 1, .lst ds => decide (ds.length ≤ 100000) && ds.all (alkD n)
  | _, _ => false
def f_alk (n : Nat) : DSp := dsp2 fun a b Q => a = b ∧ alkD n a = true ∧ Q (.bl true)
theorem rd_alike0 : Rd 3 (f_alk 0) (b_alike (fun _ _ _ => False)) := by
  rintro XX ds Q ⟨a, _, rfl, rfl, ha, hq⟩
  cases a <;> simp [alkD] at ha <;> simp [b_alike, ini, hq, ha]
theorem alike_seq {n : Nat} {a : D} {ds : List D} (ha : a = .tup ds ∨ a = .lst ds) (hl : ds.length ≤ 100000) (hall : ∀ d ∈ ds, alkD n d = true) {Q : KQ} (hq : Q .fr (.lst [])) {XX : Exn → Prop} :
    dLc (diRg1 (dCons (dCB rdLen (dCons (dVar 1) dNil)) dNil)) (dgName 2) (dNot (dB (dCall (f_alk n) (dCons (dOp rdIx (dVar 0) (dVar 2)) (dCons (dOp rdIx (dVar 1) (dVar 2)) dNil))))) (dVar 2) [2] XX [.v false a, .v false a, .e] Q := by
  refine lc_fil (List.range ds.length) (fun i => D.int (0 + ((i : Nat) : Int))) (k := .fr) .fr (fun _ => false) (fun _ => .non) rfl (fun Qi h => ?_) (by simpa using hl) (by rcases ha with rfl | rfl <;> rfl) (by decide) (fun i hi K K0 _ hk => ?_) ?_
  · rw [← rgD_map] at h
    rcases ha with rfl | rfl <;> simp <;> exact ⟨by omega, h⟩
  · have hi' : i < ds.length := by simpa using hi
    have h1 : alkD n ds[i] = true := hall _ (List.getElem_mem hi')
    rcases ha with rfl | rfl <;> simp [wipeR, f_alk, atI_nat hi', h1] <;> exact hk rfl
  · rw [List.filter_eq_nil_iff.mpr (by simp)]; exact hq
theorem rd_alike (n : Nat) : Rd 3 (f_alk (n + 1)) (b_alike (f_alk n)) := by
  rintro XX ds Q ⟨a, _, rfl, rfl, ha, hq⟩
  cases a with
  | tup ds =>
    simp [alkD] at ha
    simp [b_alike, ini]
    exact alike_seq (.inl rfl) ha.1 ha.2 (by simp [hq])
  | lst ds =>
    simp [alkD] at ha
    simp [b_alike, ini]
    exact alike_seq (.inr rfl) ha.1 ha.2 (by simp [hq])
  | non => simp [b_alike, ini, hq]
  | bl b => simp [b_alike, ini, hq]
  | int b => simp [b_alike, ini, hq]
  | str b => simp [alkD] at ha; simp [b_alike, ini, hq, ha]
  | obj => cases ha
  | row => cases ha
  | dic => cases ha
  | fls => cases ha
end HD

set_option Elab.async false
set_option linter.all false
set_option maxRecDepth 100000
set_option maxHeartbeats 1000000
/-! readings: clusters, faces -/
namespace HD
open PySem PySem.Spec PyProof.Rows L2
theorem sBn {n m : Bool} {d e : D} : (Slot.v n d = Slot.v m e) = (n = m ∧ d = e) := by simp
@[simp] theorem int_eN {n : Nat} : (D.int (n : Int) = eN n) = True := by simp [eN]
/-! parts -/
def pstep (acc : List (List Int)) (s : Int) : List (List Int) := if 800 ≤ s ∧ acc ≠ [] then acc.dropLast ++ [(acc.getLast?.getD []) ++ [s]] else acc ++ [[s]]
def partsL (t : List Int) : List (List Int) := t.foldl pstep []
theorem partsL_snoc (t : List Int) (s : Int) : partsL (t ++ [s]) = pstep (partsL t) s := by unfold partsL; rw [List.foldl_append]; rfl
theorem pstep_len (acc : List (List Int)) (s : Int) : (pstep acc s).length ≤ acc.length + 1 := by
  unfold pstep
  split
  · rename_i h
    have : acc.length ≠ 0 := fun z => h.2 (List.length_eq_zero_iff.mp z)
    simp
    try omega
  · simp
theorem parts_len : ∀ t : List Int, ∀ acc : List (List Int), (t.foldl pstep acc).length ≤ acc.length + t.length
  | [], acc => by simp
  | s :: t, acc => by
    rw [List.foldl_cons]
    have := parts_len t (pstep acc s)
    have := pstep_len acc s
    rw [List.length_cons]
    omega
theorem partsL_len (t : List Int) : (partsL t).length ≤ t.length := by have := parts_len t []; unfold partsL; simpa using this
def f_parts : DSp := dsp1 fun a Q => ∃ t : List Int, a = .lst (t.map .int) ∧ t.length ≤ 1000 ∧ Q (.lst ((partsL t).map tints))
-- parts(text): 0 text 1 found 2 sign
@[reducible] def b_parts : DTS :=
  (dSeq (dAsgO 1 (dLst dNil))
    (dSeq (dFor (diSq (dVar 0)) (dgName 2) (dIfS (dAnd (dB (dOp rdGe (dVar 2) (dC (.int 800)))) (dB (dOp rdNe (dVar 1) (dLst dNil)))) (dSub 1 (dOp rdAdd (dOp rdIx (dVar 1) (dNeg (dC (.int 1)))) (dTup (dCons (dVar 2) dNil))) (dNeg (dC (.int 1)))) (dApp 1 (dTup (dCons (dVar 2) dNil)))))
    (dRetV 1)))
theorem set_last {α : Type} {l : List α} {a : α} (h : l ≠ []) : l.set (l.length - 1) a = l.dropLast ++ [a] := by
  obtain ⟨l', b, rfl⟩ : ∃ l' b, l = l' ++ [b] := ⟨l.dropLast, l.getLast h, (List.dropLast_concat_getLast h).symm⟩
  simp
theorem part_bound (p : List Int) : ∀ c ∈ partsL p, c.length ≤ p.length := by
  have key : ∀ (t : List Int) (acc : List (List Int)) (n : Nat), (∀ c ∈ acc, c.length ≤ n) → ∀ c ∈ t.foldl pstep acc, c.length ≤ n + t.length := by
    intro t
    induction t with
    | nil => intro acc n h c hc; exact h c hc
    | cons s t ih =>
      intro acc n h c hc
      have := ih (pstep acc s) (n + 1) (fun c hc => ?_) c hc
      · rw [List.length_cons]; omega
      · unfold pstep at hc
        split at hc
        · rename_i h'
          rcases List.mem_append.mp hc with hc | hc
          · have := h c (List.dropLast_subset _ hc); omega
          · rw [List.mem_singleton.mp hc]
            have h2 : acc.getLast?.getD [] ∈ acc := by rw [List.getLast?_eq_some_getLast h'.2]; exact List.getLast_mem h'.2
            have := h _ h2
            simp; omega
        · rcases List.mem_append.mp hc with hc | hc
          · have := h c hc; omega
          · rw [List.mem_singleton.mp hc]; simp
  intro c hc
  have := key p [] 0 (by simp) c hc
  omega
theorem rd_parts : Rd 3 f_parts b_parts := by
  rintro XX ds Q ⟨_, rfl, t, rfl, ht, hq⟩
  simp [b_parts, ini]
  refine for_listS t .int (k := .sf) (fun acc : List (List Int) => [.v false (.lst (t.map .int)), .own true (acc.map tints), .e]) (fun p acc => acc = partsL p) [] rfl (fun Q h => by simpa using h) rfl rfl (fun p a q acc e h => ?_) fun acc h => ?_
  · subst h
    have hl : (partsL p).length ≤ 1000 := by have := partsL_len p; have := congrArg List.length e; simp at this; omega
    have hp : p.length ≤ 1000 := by have := congrArg List.length e; simp at this; omega
    simp
    by_cases ha : a < 800
    · refine .inl ⟨ha, by omega, ?_⟩
      rw [partsL_snoc, pstep, if_neg (by omega)]
      simp [tints]
    · refine .inr ⟨by omega, ?_⟩
      by_cases hn : partsL p = []
      · refine .inl ⟨hn, by omega, ?_⟩
        rw [partsL_snoc, pstep, if_neg (by simp [hn]), hn]
        simp [tints]
      · refine .inr ⟨hn, ?_⟩
        have hl0 := List.getLast?_eq_some_getLast hn
        refine ⟨tints ((partsL p).getLast hn), by rw [atI_last (by simpa using hn), List.getLast?_map, hl0]; rfl, ?_⟩
        have hb := part_bound p _ (List.getLast_mem hn)
        simp [tints]
        refine ⟨by omega, _, ixN_last (List.length_pos_iff.mpr hn), ?_⟩
        rw [partsL_snoc, pstep, if_pos ⟨by omega, hn⟩, hl0]
        have := set_last (l := (partsL p).map tints) (a := tints ((partsL p).getLast hn ++ [a])) (by simpa using hn)
        simp [tints] at this
        simp [tints, this]
  · simp [h, hq]
/-! bounds -/
def bnd : Nat → List (List Int) → List (Nat × Nat)
  | _, [] => []
  | i, c :: cs => (i, i + c.length) :: bnd (i + c.length) cs
def boundsL (t : List Int) : List (Nat × Nat) := bnd 0 (partsL t)
def eP (q : Nat × Nat) : D := .tup [eN q.1, eN q.2]
@[simp] theorem flat_eP {q} : (eP q).flat = true := by simp [eP]
def f_bounds : DSp := dsp1 fun a Q => ∃ t : List Int, a = .lst (t.map .int) ∧ t.length ≤ 1000 ∧ Q (.lst ((boundsL t).map eP))
-- bounds(text): 0 text 1 found 2 at 3 cluster
@[reducible] def b_bounds : DTS :=
  (dSeq (dAsgO 1 (dLst dNil))
    (dSeq (dAsg (dC (.int 0)) (dgName 2))
    (dSeq (dFor (diSq (dCall f_parts (dCons (dVar 0) dNil))) (dgName 3) (dSeq (dApp 1 (dTup (dCons (dVar 2) (dCons (dOp rdAdd (dVar 2) (dCB rdLen (dCons (dVar 3) dNil))) dNil))))
    (dAsg (dOp rdAdd (dVar 2) (dCB rdLen (dCons (dVar 3) dNil))) (dgName 2))))
    (dRetV 1))))
theorem rd_bounds : Rd 4 f_bounds b_bounds := by
  rintro XX ds Q ⟨_, rfl, t, rfl, ht, hq⟩
  simp [b_bounds, ini]
  refine for_listS (partsL t) tints (k := .fr) (fun b : List (Nat × Nat) × Nat => [.v false (.lst (t.map .int)), .own true (b.1.map eP), .v true (eN b.2), .e]) (fun p b => b.1.length = p.length ∧ ∀ r, bnd 0 (p ++ r) = b.1 ++ bnd b.2 r) ([], 0) rfl (fun Q h => by
    simp [f_parts, ht]; exact h) rfl ⟨rfl, fun r => rfl⟩ (fun p a q b e h => ?_) fun b h => ?_
  · have hl : b.1.length ≤ 1000 := by rw [h.1]; have := partsL_len t; have := congrArg List.length e; simp at this; omega
    simp [tints, eN]
    refine ⟨by omega, b.1 ++ [(b.2, b.2 + a.length)], b.2 + a.length, ?_, ?_⟩
    · simp [eP, eN]
    · refine ⟨by simp [h.1], fun r => ?_⟩
      have := h.2 (a :: r)
      simpa [bnd] using this
  · have := h.2 []
    simp [bnd] at this
    simp
    rw [← this]
    exact hq
end HD

set_option Elab.async false
set_option linter.all false
set_option maxRecDepth 100000
set_option maxHeartbeats 1000000
/-! readings: names, signs, cases -/
namespace HD
open PySem PySem.Spec PyProof.Rows L2
theorem kf {κ k : Kd} {d : D} (h : d.flat = true := by rfl) : kle κ k d := .inr h
/-- .. if none is kept -/
theorem lc_none {α : Type} {XX : Exn → Prop} {ρ : Rho} {it : DTI} {g : DTG} {Q : KQ} {te : DTE} {tt : DTT} {vs : List Nat} (l : List α) (f : α → D) {k : Kd} {n : Bool} (hk : kn k = some n) (hit : ∀ Qi : Kd → List D → Prop, Qi k (l.map f) → it XX ρ Qi) (hl : l.length ≤ 100000) (hno : noOwn ρ vs = true)
    (hs : ∀ a ∈ l, ∀ (K : KQ) (K0 : Prop), K0 → g n (f a) (wipeR ρ vs) fun ρ2 => tt XX ρ2 fun b => if b = true then te XX ρ2 K else K0)
    (hd : Q .fr (.lst [])) : dLc it g tt te vs XX ρ Q := by
  refine lc_inv l f .fr (fun p acc => acc = []) hk hit hl hno (by decide) rfl (fun p a q acc e h => ?_) fun acc h => by rw [h]; exact hd
  exact hs a (by rw [e]; simp) _ _ h
/-- [s for s in l if P s] == [] -/
theorem fil_nil {α : Type} {l : List α} {P : α → Bool} : (l.filter P = []) ↔ ∀ a ∈ l, P a = false := by
  rw [List.filter_eq_nil_iff]
  simp
@[simp] theorem cs_sg {n} {l : List Nat} : D.cmps n (l.map sgD) = l.all fun c => PyData.strOk ⟨#[c]⟩ := by
  induction l with
  | nil => simp
  | cons a l ih => simp [sgD, ih]
def letters : List Nat := ("abcdefghijklmnopqrstuvwxyz" : Str).cps.toList
def nameOk (s : Str) : Bool := decide (1 ≤ s.length) && decide (s.length ≤ 8) && s.cps.toList.all fun c => letters.contains c
theorem str1 (c : Nat) (h : c < 1114112) : PyData.strOk ⟨#[c]⟩ = true := by
  simp [PyData.strOk, h]
theorem strOk_mem {s : Str} (h : PyData.strOk s = true) {c : Nat} (hc : c ∈ s.cps.toList) : c < 1114112 := by
  unfold PyData.strOk at h
  rw [← Array.all_toList, List.all_eq_true] at h
  simpa using h c hc
def f_is_name : DSp := dsp1 fun a Q => ∃ s : Str, a = .str s ∧ s.length ≤ 100000 ∧ PyData.strOk s = true ∧ Q (.bl (nameOk s))
-- is_name(text): 0 text 1 sign
@[reducible] def b_is_name : DTS :=
  (dRet (dAndV (dChain rdLe rdLe (dC (.int 1)) (dCB rdLen (dCons (dVar 0) dNil)) (dC (.int 8))) (dOp rdEq (dLc (diSq (dVar 0)) (dgName 1) (dB (dOp (rdIn true) (dVar 1) (dC (.str ("abcdefghijklmnopqrstuvwxyz" : Str))))) (dVar 1) [1]) (dLst dNil))))
theorem rd_is_name : Rd 2 f_is_name b_is_name := by
  rintro XX ds Q ⟨_, rfl, s, rfl, hs, hok, hq⟩
  simp [b_is_name, ini, hs]
  have hlen : s.cps.toList.length = s.length := by simp [Str.length]
  have comp : ∀ Q' : KQ, Q' .fr (.lst ((s.cps.toList.filter fun c => !letters.contains c).map sgD)) → dLc (diSq (dVar 0)) (dgName 1) (dB (dOp (rdIn true) (dVar 1) (dC (.str ("abcdefghijklmnopqrstuvwxyz" : Str))))) (dVar 1) [1] XX [Slot.v false (.str s), .e] Q' := fun Q' h => by
    refine lc_fil s.cps.toList sgD (k := .sf) .fr (fun c => !letters.contains c) sgD rfl (fun Qi h => by simpa using h) (by rw [hlen]; exact hs) rfl (by decide) (fun c hc K K0 h1 h0 => ?_) h
    simp [wipeR, sgD]
    by_cases hcl : c ∈ ("abcdefghijklmnopqrstuvwxyz" : Str).cps
    · exact .inl ⟨hcl, h0 (by simp [letters, hcl])⟩
    · exact .inr ⟨hcl, h1 (by simp [letters, hcl]) _ kf⟩
  by_cases h1 : (s.length : Int) < 1
  · refine .inl ⟨h1, ?_⟩
    have : nameOk s = false := by simp [nameOk]; intro z; omega
    rwa [this] at hq
  · refine .inr ⟨by omega, ?_⟩
    by_cases h8 : 8 < (s.length : Int)
    · refine .inl ⟨h8, ?_⟩
      have : nameOk s = false := by simp [nameOk]; intro _ z; omega
      rwa [this] at hq
    · refine .inr ⟨by omega, comp _ ⟨?_, ?_⟩⟩
      · rw [c_lst60, cs_sg, List.all_eq_true]
        exact fun c hc => str1 c (strOk_mem hok (List.mem_filter.mp hc).1)
      · have : deq (D.lst ((s.cps.toList.filter fun c => !letters.contains c).map sgD)) (D.lst []) = nameOk s := by
          rw [e_ll, es_map_nil, Bool.eq_iff_iff, decide_eq_true_eq, fil_nil]
          simp only [nameOk, Bool.and_eq_true, decide_eq_true_eq, List.all_eq_true, Bool.not_eq_false']
          constructor
          · intro h; exact ⟨⟨by omega, by omega⟩, h⟩
          · intro h; exact h.2
        rw [this]; exact hq
theorem atI_s {α : Type} {l : List α} {i : Nat} (h : i + 1 < l.length) : atI l ((i : Int) + 1) = some l[i + 1] := by
  have e : (i : Int) + 1 = ((i + 1 : Nat) : Int) := by omega
  rw [e]
  exact atI_nat h
/-! are_signs -/
theorem getD_at {l : List Int} {i : Nat} (h : i < l.length) : l.getD i 0 = l[i] := by
  rw [List.getD_eq_getElem?_getD, List.getElem?_eq_getElem h]
  rfl
def SignsOk (l : List Int) : Prop := l.length ≤ 100 ∧ (∀ s ∈ l, 0 ≤ s ∧ s < 1000) ∧ l.Pairwise (· < ·)
def f_are_signs : DSp := dsp1 fun a Q => ∃ l : List Int, a = tints l ∧ SignsOk l ∧ Q (.bl true)
-- are_signs(signs): 0 signs 1 sign 2 k
@[reducible] def b_are_signs : DTS :=
  (dSeq (dIfS (dOr (dB (dOp rdGt (dCB rdLen (dCons (dVar 0) dNil)) (dC (.int 100)))) (dB (dOp rdNe (dLc (diSq (dVar 0)) (dgName 1) (dNot (dB (dChain rdLe rdLt (dC (.int 0)) (dVar 1) (dC (.int 1000))))) (dVar 1) [1]) (dLst dNil)))) (dRet (dC (.bl false))) dNext)
    (dRet (dOp rdEq (dLc (diRg2 (dCons (dC (.int 1)) (dCons (dCB rdLen (dCons (dVar 0) dNil)) dNil))) (dgName 2) (dB (dOp rdGe (dOp rdIx (dVar 0) (dOp rdSub (dVar 2) (dC (.int 1)))) (dOp rdIx (dVar 0) (dVar 2)))) (dVar 2) [2]) (dLst dNil))))

theorem rd_are_signs : Rd 3 f_are_signs b_are_signs := by
  rintro XX ds Q ⟨_, rfl, l, rfl, ⟨hl, hb, hs⟩, hq⟩
  simp [b_are_signs, ini, tints]
  refine .inl ⟨by omega, ?_⟩
  refine lc_none l .int (k := .sf) rfl (fun Qi h => by simpa using h) (by omega) rfl (fun s hm K K0 h0 => ?_) ?_
  · have := hb s hm
    simp [wipeR]
    exact .inr ⟨this.1, .inr ⟨this.2, h0⟩⟩
  · simp
    refine lc_none (List.range (l.length - 1)) (fun i => D.int (1 + ((i : Nat) : Int))) (k := .fr) rfl (fun Qi h => ?_) (by simp; omega) rfl (fun i hi K K0 h0 => ?_) (by simpa using hq)
    · rw [← rgD_map] at h
      have e : ((l.length : Int) - 1).toNat = l.length - 1 := by omega
      simp [e]
      exact ⟨by omega, h⟩
    · have hi' : i < l.length - 1 := by simpa using hi
      have h1 : i < l.length := by omega
      have h2 : i + 1 < l.length := by omega
      have hlt := List.pairwise_iff_getElem.mp hs i (i + 1) h1 h2 (by omega)
      have e1 : (1 : Int) + (i : Int) - 1 = (i : Int) := by omega
      have e2 : (1 : Int) + (i : Int) = (i : Int) + 1 := by omega
      simp [wipeR, e1, e2, atI_map, atI_nat h1, atI_s h2]
      exact .inl ⟨hlt, h0⟩
/-! the methods of a case -/
def f_faces : DSp := dsp1 fun a Q => ∃ fs : List Face, a = .obj (fs.map eF) ∧ Q (.lst (fs.map eF))
-- Case.faces(self): 0 self
@[reducible] def b_faces : DTS :=
  (dRet (dCB rdList (dCons (dFld (dVar 0)) dNil)))

theorem rd_faces : Rd 1 f_faces b_faces := by
  rintro XX ds Q ⟨_, rfl, fs, rfl, hq⟩
  simp [b_faces, ini]
  exact hq
def rankOf (fs : List Face) (k : Nat) : Int := (fs[k]?.map (·.rank)).getD 0
def f_rank : DSp := dsp2 fun a b Q => ∃ (fs : List Face) (k : Nat), a = .obj (fs.map eF) ∧ b = eN k ∧ k < fs.length ∧ Q (.int (rankOf fs k))
-- Case.rank(self, number): 0 self 1 number
@[reducible] def b_rank : DTS :=
  (dRet (dOp rdIx (dOp rdIx (dFld (dVar 0)) (dVar 1)) (dC (.int 1))))

theorem rd_rank : Rd 2 f_rank b_rank := by
  rintro XX ds Q ⟨_, _, rfl, fs, k, rfl, rfl, hk, hq⟩
  simp [b_rank, ini, eN, atI_map, atI_nat hk, eF]
  simpa [rankOf, hk] using hq
def hasS (fs : List Face) (k : Nat) (s : Int) : Bool := (fs[k]?).any fun f => f.signs.contains s
def havingL (fs : List Face) (l : List Int) : List Nat := (List.range fs.length).filter fun k => l.all (hasS fs k)
def f_having : DSp := dsp2 fun a b Q => ∃ (fs : List Face) (l : List Int), a = .obj (fs.map eF) ∧ b = tints l ∧ fs.length ≤ 1000 ∧ l.length ≤ 1000 ∧ Q (eL (havingL fs l))
-- Case.having(self, signs): 0 self 1 signs 2 found 3 number 4 sign
@[reducible] def b_having : DTS :=
  (dSeq (dAsgO 2 (dLst dNil))
    (dSeq (dFor (diRg1 (dCons (dCB rdLen (dCons (dFld (dVar 0)) dNil)) dNil)) (dgName 3) (dIfS (dB (dOp rdEq (dLc (diSq (dVar 1)) (dgName 4) (dB (dOp (rdIn true) (dVar 4) (dOp rdIx (dOp rdIx (dFld (dVar 0)) (dVar 3)) (dC (.int 2))))) (dVar 4) [4]) (dLst dNil))) (dApp 2 (dVar 3)) dNext))
    (dRetV 2)))

@[simp] theorem inS {l : List Int} {s : Int} : ((l.map D.int).any fun y => dEqS y (.int s)) = l.contains s := by
  induction l with
  | nil => rfl
  | cons a l ih =>
    simp only [List.map_cons, List.any_cons, ih, dq_ii, List.contains_cons]
    congr 1
    rw [Bool.eq_iff_iff]
    simp
    exact eq_comm
@[simp] theorem allS {l : List Int} : (l.map D.int).all D.scl = true := by simp
theorem rd_having : Rd 5 f_having b_having := by
  rintro XX ds Q ⟨_, _, rfl, fs, l, rfl, rfl, hf, hl, hq⟩
  simp [b_having, ini]
  refine for_rangeS 0 fs.length (fun acc : List Nat => [.v false (.obj (fs.map eF)), .v false (tints l), .own true (acc.map eN), .e, .e]) (fun i acc => acc = (List.range i).filter fun k => l.all (hasS fs k)) [] (fun Q h => by simp; exact ⟨by omega, h⟩) rfl rfl (fun i acc hi h => ?_) fun acc h => ?_
  · subst h
    simp
    refine lc_fil l .int (k := .sf) .fr (fun s => !hasS fs i s) .int rfl (fun Qi h => by simpa [tints] using h) (by omega) rfl (by decide) (fun s hm K K0 h1 h0 => ?_) ?_
    · simp [wipeR, atI_map, atI_nat hi]
      refine ⟨_, rfl, ?_⟩
      have e : hasS fs i s = fs[i].signs.contains s := by simp [hasS, hi]
      simp [atI, tints, ixN]
      by_cases c : fs[i].signs.contains s = true
      · refine .inl ⟨by simpa using c, h0 (by rw [e, c]; rfl)⟩
      · refine .inr ⟨fun x hx z => c (by subst z; simpa using hx), h1 (by rw [e]; simpa using c) _ kf⟩
    · simp
      by_cases c : l.all (hasS fs i) = true
      · refine .inr ⟨by simpa using c, ?_, ?_⟩
        · have := List.length_filter_le (fun k => l.all (hasS fs k)) (List.range i)
          simp at this; omega
        · rw [List.range_succ, List.filter_append, List.filter_cons, if_pos c]
          simp [eN]
      · refine .inl ⟨by simpa using c, ?_⟩
        rw [List.range_succ, List.filter_append, List.filter_cons, if_neg c]
        simp
  · simp [h]
    exact hq
/-! a text's signs -/
def TextOk (t : List Int) : Prop := ∀ s ∈ t, 0 ≤ s ∧ s < 1000
def f_need_signs2 : DSp := dsp1 fun a Q => ∃ t : List Int, a = .lst (t.map .int) ∧ t.length ≤ 1000 ∧ TextOk t ∧ Q .non
-- need_signs(text): 0 text 1 place
@[reducible] def b_need_signs2 : DTS :=
  (dFor (diRg1 (dCons (dCB rdLen (dCons (dVar 0) dNil)) dNil)) (dgName 1) (dIfS (dNot (dB (dChain rdLe rdLt (dC (.int 0)) (dOp rdIx (dVar 0) (dVar 1)) (dC (.int 1000))))) dNever dNext))

theorem rd_need_signs2 : Rd 2 f_need_signs2 b_need_signs2 := by
  rintro XX ds Q ⟨_, rfl, t, rfl, hl, ht, hq⟩
  simp [b_need_signs2, ini]
  refine for_rangeS 0 t.length (fun _ : Unit => [.v false (.lst (t.map .int)), .e]) (fun i _ => True) () (fun Q h => by simp; exact ⟨by omega, h⟩) rfl trivial (fun i _ hi _ => ?_) fun _ _ => hq
  have := ht _ (List.getElem_mem hi)
  simp [atI_map, atI_nat hi, this.1, this.2]
def everyL (fs : List Face) (t : List Int) : List (List Nat) := (partsL t).map (havingL fs)
def f_all_choices : DSp := dsp2 fun a b Q => ∃ (fs : List Face) (t : List Int), a = .obj (fs.map eF) ∧ b = .lst (t.map .int) ∧ fs.length ≤ 1000 ∧ t.length ≤ 1000 ∧ Q (.lst ((everyL fs t).map eL))
-- all_choices(case, text): 0 case 1 text 2 cluster
@[reducible] def b_all_choices : DTS :=
  (dRet (dLc (diSq (dCall f_parts (dCons (dVar 1) dNil))) (dgName 2) dYes (dMeth f_having (dVar 0) (dCons (dVar 2) dNil)) [2]))

theorem rd_all_choices : Rd 3 f_all_choices b_all_choices := by
  rintro XX ds Q ⟨_, _, rfl, fs, t, rfl, rfl, hf, hl, hq⟩
  simp [b_all_choices, ini]
  refine lc_map (partsL t) tints (k := .fr) .fr (fun c => eL (havingL fs c)) rfl (fun Qi h => by simp [f_parts, hl]; exact h) (by have := partsL_len t; omega) rfl (by decide) (fun c hc K hk => ?_) ?_
  · have := part_bound t c hc
    simp [wipeR, f_having, hf]
    exact ⟨by omega, hk _ (.inl rfl)⟩
  · simp
    have e : (partsL t).map (fun c => eL (havingL fs c)) = (everyL fs t).map eL := by simp [everyL]
    rw [e]
    exact hq
/-! changes -/
def chg (row : List (Option Nat)) (i : Nat) : Bool := decide (row[i]? ≠ row[i + 1]?)
def changesL (row : List (Option Nat)) : Nat := ((List.range (row.length - 1)).filter (chg row)).length
def f_changes : DSp := dsp1 fun a Q => ∃ row : List (Option Nat), a = .lst (row.map eO) ∧ row.length ≤ 1000 ∧ Q (eN (changesL row))
-- changes(row): 0 row 1 k
@[reducible] def b_changes : DTS :=
  (dRet (dCB rdLen (dCons (dLc (diRg2 (dCons (dC (.int 1)) (dCons (dCB rdLen (dCons (dVar 0) dNil)) dNil))) (dgName 1) (dB (dOp rdNe (dOp rdIx (dVar 0) (dOp rdSub (dVar 1) (dC (.int 1)))) (dOp rdIx (dVar 0) (dVar 1)))) (dVar 1) [1]) dNil)))

theorem rd_changes : Rd 2 f_changes b_changes := by
  rintro XX ds Q ⟨_, rfl, row, rfl, hl, hq⟩
  simp [b_changes, ini]
  refine lc_fil (List.range (row.length - 1)) (fun i => D.int (1 + ((i : Nat) : Int))) (k := .fr) .fr (chg row) (fun i => D.int (1 + (i : Int))) rfl (fun Qi h => ?_) (by simp; omega) rfl (by decide) (fun i hi K K0 h1 h0 => ?_) ?_
  · rw [← rgD_map] at h
    have e : ((row.length : Int) - 1).toNat = row.length - 1 := by omega
    simp [e]
    exact ⟨by omega, h⟩
  · have hi' : i < row.length - 1 := by simpa using hi
    have h1' : i < row.length := by omega
    have h2' : i + 1 < row.length := by omega
    have e1 : (1 : Int) + (i : Int) - 1 = (i : Int) := by omega
    have e2 : (1 : Int) + (i : Int) = (i : Int) + 1 := by omega
    simp [wipeR, e1, e2, atI_map, atI_nat h1', atI_s h2']
    have ec : chg row i = decide (row[i] ≠ row[i + 1]) := by simp [chg, h1', h2']
    by_cases c : row[i] = row[i + 1]
    · exact .inl ⟨c, h0 (by rw [ec]; simp [c])⟩
    · refine .inr ⟨c, ?_⟩
      have := h1 (by rw [ec]; simp [c]) .nw kf
      rw [e2] at this
      exact this
  · simp
    exact hq
end HD

set_option Elab.async false
set_option linter.all false
set_option maxRecDepth 100000
set_option maxHeartbeats 1000000
/-! readings: the least row -/
namespace HD
open PySem PySem.Spec PyProof.Rows L2
/-! ### order of data, place by place -/
def ltDs : List D → List D → Bool
  | [], [] => false
  | [], _ :: _ => true
  | _ :: _, [] => false
  | a :: as, b :: bs => if deq a b = true then ltDs as bs else ltD a b
def alkE : List D → List D → Bool
  | a :: as, b :: bs => PySem.W.alike a.py b.py && alkE as bs
  | _, _ => true
theorem alkE_py : ∀ a b : List D, PySem.W.alikeAll (D.pys a) (D.pys b) = alkE a b
  | [], [] => by simp [PySem.W.alikeAll, alkE]
  | [], _ :: _ => by simp [PySem.W.alikeAll, alkE]
  | _ :: _, [] => by simp [PySem.W.alikeAll, alkE]
  | a :: as, b :: bs => by simp [PySem.W.alikeAll, alkE, alkE_py as bs]
theorem toks_ltDs : ∀ a b : List D, alkE a b = true → PyProof.Rows.lexLt PyProof.Rows.itemOrd (PySem.W.keyToksAll (D.pys a)) (PySem.W.keyToksAll (D.pys b)) = ltDs a b
  | [], [], _ => by rw [pys_nil]; exact lex_irrefl _
  | [], b :: bs, _ => by
    simp only [pys_nil, pys_cons, PySem.W.keyToksAll, ltDs]
    rfl
  | a :: as, [], _ => by
    simp only [pys_nil, pys_cons, PySem.W.keyToksAll, ltDs]
    rfl
  | a :: as, b :: bs, h => by
    simp only [alkE, Bool.and_eq_true] at h
    rw [pys_cons, pys_cons, ltDs]
    cases e : deq a b with
    | true =>
      rw [PySem.W.dataLt_all_yes h.1 e, toks_ltDs as bs h.2]
      rfl
    | false =>
      rw [PySem.W.dataLt_all_no h.1 e]
      rfl
theorem ltD_tup {a b : List D} (h : alkE a b = true) : ltD (.tup a) (.tup b) = ltDs a b := by
  show PySem.W.dataLt (D.tup a).py (D.tup b).py = _
  unfold D.py
  rw [PySem.W.dataLt_tuple]
  exact toks_ltDs a b h
theorem ltD_lst {a b : List D} (h : alkE a b = true) : ltD (.lst a) (.lst b) = ltDs a b := by
  show PySem.W.dataLt (D.lst a).py (D.lst b).py = _
  unfold D.py
  rw [PySem.W.dataLt_list]
  exact toks_ltDs a b h
@[simp] theorem ltD_int {i j : Int} : ltD (.int i) (.int j) = decide (i < j) := by
  show PySem.W.dataLt (D.int i).py (D.int j).py = _
  unfold D.py
  exact PySem.W.dataLt_int i j
@[simp] theorem alk_ii {i j : Int} : PySem.W.alike (D.int i).py (D.int j).py = true := by unfold D.py; simp [PySem.W.alike]
@[simp] theorem alk_tt {a b} : PySem.W.alike (D.tup a).py (D.tup b).py = alkE a b := by unfold D.py; simp [PySem.W.alike, alkE_py]
@[simp] theorem alk_ll {a b} : PySem.W.alike (D.lst a).py (D.lst b).py = alkE a b := by unfold D.py; simp [PySem.W.alike, alkE_py]
@[simp] theorem alk_nn : PySem.W.alike (D.non).py (D.non).py = true := by unfold D.py; simp [PySem.W.alike]
@[simp] theorem alkE_nn : alkE [] [] = true := rfl
@[simp] theorem alkE_cc {a as b bs} : alkE (a :: as) (b :: bs) = (PySem.W.alike a.py b.py && alkE as bs) := rfl
/-! ### ways: what they cost, the row -/
abbrev Cost := Int × Int × Int
abbrev Way := Cost × List (Option Nat)
def eC (c : Cost) : D := .tup [.int c.1, .int c.2.1, .int c.2.2]
def eR (r : List (Option Nat)) : D := .lst (r.map eO)
def eW (w : Way) : D := .tup [eC w.1, eR w.2]
def ltO : Option Nat → Option Nat → Bool
  | some a, some b => decide (a < b)
  | _, _ => false
def ltR : List (Option Nat) → List (Option Nat) → Bool
  | [], [] => false
  | [], _ :: _ => true
  | _ :: _, [] => false
  | a :: as, b :: bs => if a = b then ltR as bs else ltO a b
def ltC (a b : Cost) : Bool := if a.1 = b.1 then (if a.2.1 = b.2.1 then decide (a.2.2 < b.2.2) else decide (a.2.1 < b.2.1)) else decide (a.1 < b.1)
def ltW (a b : Way) : Bool := if a.1 = b.1 then ltR a.2 b.2 else ltC a.1 b.1
/-- of one kind, place by place -/
def kin (a b : List (Option Nat)) : Prop := a.map Option.isSome = b.map Option.isSome
theorem kin_alk : ∀ {a b : List (Option Nat)}, kin a b → alkE (a.map eO) (b.map eO) = true
  | [], [], _ => rfl
  | [], _ :: _, h => by simp [kin] at h
  | _ :: _, [], h => by simp [kin] at h
  | a :: as, b :: bs, h => by
    simp [kin] at h
    have ih := kin_alk (a := as) (b := bs) h.2
    cases a <;> cases b <;> simp [eO, ih] at h ⊢
theorem ltO_py {a b : Option Nat} (h : a ≠ b) (k : a.isSome = b.isSome) : ltD (eO a) (eO b) = ltO a b := by
  cases a <;> cases b <;> simp [eO, ltO] at h k ⊢
theorem ltR_py : ∀ {a b : List (Option Nat)}, kin a b → ltDs (a.map eO) (b.map eO) = ltR a b
  | [], [], _ => rfl
  | [], _ :: _, h => by simp [kin] at h
  | _ :: _, [], h => by simp [kin] at h
  | a :: as, b :: bs, h => by
    simp [kin] at h
    simp only [List.map_cons, ltDs, ltR, eq_eO, decide_eq_true_eq]
    by_cases e : a = b
    · rw [if_pos e, if_pos e]
      exact ltR_py h.2
    · rw [if_neg e, if_neg e]
      exact ltO_py e h.1
theorem eqC {a b : Cost} : deq (eC a) (eC b) = decide (a = b) := by
  obtain ⟨a1, a2, a3⟩ := a
  obtain ⟨b1, b2, b3⟩ := b
  rw [Bool.eq_iff_iff]
  simp [eC]
theorem ltC_py {a b : Cost} (h : a ≠ b) : ltD (eC a) (eC b) = ltC a b := by
  obtain ⟨a1, a2, a3⟩ := a
  obtain ⟨b1, b2, b3⟩ := b
  unfold eC
  rw [ltD_tup (by simp)]
  simp only [ltDs, e_ii, decide_eq_true_eq, ltD_int, ltC]
  by_cases h1 : a1 = b1
  · by_cases h2 : a2 = b2
    · by_cases h3 : a3 = b3
      · exact absurd (by rw [h1, h2, h3]) h
      · simp [h1, h2, h3]
    · simp [h1, h2]
  · simp [h1]
theorem alkW {a b : Way} (h : kin a.2 b.2) : PySem.W.alike (eW a).py (eW b).py = true := by
  simp [eW, eC, eR, kin_alk h]
theorem ltW_py {a b : Way} (h : kin a.2 b.2) : ltD (eW a) (eW b) = ltW a b := by
  unfold eW
  rw [ltD_tup (by simp [eC, eR, kin_alk h])]
  simp only [ltDs, eqC, decide_eq_true_eq, ltW]
  by_cases e : a.1 = b.1
  · rw [if_pos e, if_pos e]
    by_cases e2 : deq (eR a.2) (eR b.2) = true
    · rw [if_pos e2]
      have : a.2 = b.2 := by simpa [eR] using e2
      rw [← ltR_py h, this]
      have z : ltDs (b.2.map eO) (b.2.map eO) = false := by rw [← ltD_lst (kin_alk rfl)]; exact lex_irrefl _
      rw [z]
    · rw [if_neg e2]
      unfold eR
      rw [ltD_lst (kin_alk h), ltR_py h]
  · rw [if_neg e, if_neg e]
    exact ltC_py e
theorem ltR_total : ∀ {a b : List (Option Nat)}, kin a b → ltR a b = false → ltR b a = false → a = b
  | [], [], _, _, _ => rfl
  | [], _ :: _, h, _, _ => by simp [kin] at h
  | _ :: _, [], h, _, _ => by simp [kin] at h
  | a :: as, b :: bs, h, h1, h2 => by
    simp [kin] at h
    simp only [ltR] at h1 h2
    by_cases e : a = b
    · rw [if_pos e] at h1
      rw [if_pos e.symm] at h2
      rw [e, ltR_total h.2 h1 h2]
    · rw [if_neg e] at h1
      rw [if_neg fun z => e z.symm] at h2
      cases a <;> cases b <;> simp [ltO] at h h1 h2 e
      omega
theorem ltC_total {a b : Cost} (h1 : ltC a b = false) (h2 : ltC b a = false) : a = b := by
  obtain ⟨a1, a2, a3⟩ := a
  obtain ⟨b1, b2, b3⟩ := b
  simp only [ltC] at h1 h2
  by_cases e1 : a1 = b1
  · by_cases e2 : a2 = b2
    · simp [e1, e2] at h1 h2
      simp [e1, e2]; omega
    · have e2' : ¬ b2 = a2 := fun z => e2 z.symm
      simp [e1, e2, e2'] at h1 h2
      omega
  · have e1' : ¬ b1 = a1 := fun z => e1 z.symm
    simp [e1, e1'] at h1 h2
    omega
theorem ltW_total {a b : Way} (h : kin a.2 b.2) (h1 : ltW a b = false) (h2 : ltW b a = false) : a = b := by
  simp only [ltW] at h1 h2
  by_cases e : a.1 = b.1
  · rw [if_pos e] at h1
    rw [if_pos e.symm] at h2
    exact Prod.ext e (ltR_total h h1 h2)
  · rw [if_neg e] at h1
    rw [if_neg fun z => e z.symm] at h2
    exact absurd (ltC_total h1 h2) e
/-- the least -/
def leastW : List Way → Way
  | [] => ((0, 0, 0), [])
  | w :: ws => ws.foldl (fun a y => if ltW y a = true then y else a) w
end HD

set_option Elab.async false
set_option linter.all false
set_option maxRecDepth 100000
set_option maxHeartbeats 1000000
/-! the least of ways; best_row -/
namespace HD
open PySem PySem.Spec PyProof.Rows L2
theorem ltO_trans {a b c : Option Nat} (h1 : ltO a b = true) (h2 : ltO b c = true) : ltO a c = true := by
  cases a <;> cases b <;> cases c <;> simp [ltO] at h1 h2 ⊢
  omega
theorem ltO_irr {a : Option Nat} : ltO a a = false := by cases a <;> simp [ltO]
theorem ltR_irr : ∀ a : List (Option Nat), ltR a a = false
  | [] => rfl
  | a :: as => by simp [ltR, ltR_irr as]
theorem ltR_trans : ∀ {a b c : List (Option Nat)}, ltR a b = true → ltR b c = true → ltR a c = true
  | [], [], c, h, _ => by simp [ltR] at h
  | [], _ :: _, [], _, h => by simp [ltR] at h
  | [], _ :: _, _ :: _, _, _ => rfl
  | _ :: _, [], _, h, _ => by simp [ltR] at h
  | _ :: _, _ :: _, [], _, h => by simp [ltR] at h
  | a :: as, b :: bs, c :: cs, h1, h2 => by
    simp only [ltR] at h1 h2 ⊢
    by_cases e1 : a = b
    · rw [if_pos e1] at h1
      subst e1
      by_cases e2 : a = c
      · rw [if_pos e2] at h2 ⊢
        exact ltR_trans h1 h2
      · rw [if_neg e2] at h2 ⊢
        exact h2
    · rw [if_neg e1] at h1
      by_cases e2 : b = c
      · subst e2
        rw [if_neg e1]
        exact h1
      · rw [if_neg e2] at h2
        have t := ltO_trans h1 h2
        by_cases e3 : a = c
        · subst e3
          rw [ltO_irr] at t
          cases t
        · rw [if_neg e3]
          exact t
theorem ltC_iff {a b : Cost} : ltC a b = true ↔ a.1 < b.1 ∨ (a.1 = b.1 ∧ (a.2.1 < b.2.1 ∨ (a.2.1 = b.2.1 ∧ a.2.2 < b.2.2))) := by
  obtain ⟨a1, a2, a3⟩ := a
  obtain ⟨b1, b2, b3⟩ := b
  simp only [ltC]
  by_cases e1 : a1 = b1
  · by_cases e2 : a2 = b2
    · simp [e1, e2]
    · simp [e1, e2]
  · simp [e1]
theorem ltC_trans {a b c : Cost} (h1 : ltC a b = true) (h2 : ltC b c = true) : ltC a c = true := by
  rw [ltC_iff] at h1 h2 ⊢
  omega
theorem ltC_irr (a : Cost) : ltC a a = false := by simp [ltC]
theorem ltW_irr (a : Way) : ltW a a = false := by simp [ltW, ltR_irr]
theorem ltW_trans {a b c : Way} (h1 : ltW a b = true) (h2 : ltW b c = true) : ltW a c = true := by
  simp only [ltW] at h1 h2 ⊢
  by_cases e1 : a.1 = b.1
  · rw [if_pos e1] at h1
    by_cases e2 : b.1 = c.1
    · rw [if_pos e2] at h2
      rw [if_pos (e1.trans e2)]
      exact ltR_trans h1 h2
    · rw [if_neg e2] at h2
      rw [if_neg fun z => e2 (e1.symm.trans z), e1]
      exact h2
  · rw [if_neg e1] at h1
    by_cases e2 : b.1 = c.1
    · rw [if_neg fun z => e1 (z.trans e2.symm), ← e2]
      exact h1
    · rw [if_neg e2] at h2
      have t := ltC_trans h1 h2
      by_cases e3 : a.1 = c.1
      · rw [e3, ltC_irr] at t
        cases t
      · rw [if_neg e3]
        exact t
theorem least_go : ∀ (ys : List Way) (x : Way) (seen : List Way), x ∈ seen → (∀ y ∈ seen, ltW y x = false) →
    (ys.foldl (fun a y => if ltW y a = true then y else a) x) ∈ seen ++ ys ∧ ∀ y ∈ seen ++ ys, ltW y (ys.foldl (fun a y => if ltW y a = true then y else a) x) = false
  | [], x, seen, h1, h2 => by rw [List.append_nil]; exact ⟨h1, h2⟩
  | z :: ys, x, seen, h1, h2 => by
    have key : (if ltW z x = true then z else x) ∈ seen ++ [z] ∧ ∀ y ∈ seen ++ [z], ltW y (if ltW z x = true then z else x) = false := by
      cases e : ltW z x with
      | true =>
        refine ⟨by simp, fun y hy => ?_⟩
        simp only [if_true]
        rcases List.mem_append.mp hy with hy | hy
        · cases f : ltW y z with
          | false => rfl
          | true => exact (ltW_trans f e).symm.trans (h2 y hy)
        · rw [List.mem_singleton.mp hy]; exact ltW_irr _
      | false =>
        refine ⟨by simp [h1], fun y hy => ?_⟩
        simp only [Bool.false_eq_true, if_false]
        rcases List.mem_append.mp hy with hy | hy
        · exact h2 y hy
        · rw [List.mem_singleton.mp hy]; exact e
    have := least_go ys (if ltW z x = true then z else x) (seen ++ [z]) key.1 key.2
    rw [List.append_assoc] at this
    exact this
theorem least_mem {ws : List Way} (h : ws ≠ []) : leastW ws ∈ ws := by
  cases ws with
  | nil => exact absurd rfl h
  | cons w ws => exact (least_go ws w [w] (by simp) (fun y hy => by rw [List.mem_singleton.mp hy]; exact ltW_irr _)).1
theorem least_le {ws : List Way} {y : Way} (h : y ∈ ws) : ltW y (leastW ws) = false := by
  cases ws with
  | nil => cases h
  | cons w ws => exact (least_go ws w [w] (by simp) (fun y hy => by rw [List.mem_singleton.mp hy]; exact ltW_irr _)).2 y h
theorem least_one {ws : List Way} {m : Way} (hm : m ∈ ws) (hk : ∀ a ∈ ws, ∀ b ∈ ws, kin a.2 b.2) (h : ∀ y ∈ ws, ltW y m = false) : m = leastW ws := by
  have h0 : ws ≠ [] := fun z => by rw [z] at hm; cases hm
  exact ltW_total (hk m hm _ (least_mem h0)) (least_le hm) (h _ (least_mem h0))
/-! ### best_row -/
def costL (fs : List Face) (face want : Option Nat) : Int × Int := match face with
  | none => (0, 0)
  | some k => (if want ≠ none ∧ want ≠ some k then 1 else 0, rankOf fs k)
def chgTo (row : List (Option Nat)) (f : Option Nat) : Int := if row ≠ [] ∧ row.getLast? ≠ some f then 1 else 0
def ext (fs : List Face) (want f : Option Nat) (w : Way) : Way := ((w.1.1 + chgTo w.2 f, w.1.2.1 + (costL fs f want).1, w.1.2.2 + (costL fs f want).2), w.2 ++ [f])
def cands (l : List Nat) : List (Option Nat) := if l = [] then [none] else l.map some
def bestStep (fs : List Face) (best : List Way) (q : List Nat × Option Nat) : List Way := (cands q.1).map fun f => leastW (best.map (ext fs q.2 f))
def bestW (fs : List Face) (qs : List (List Nat × Option Nat)) : List Way := qs.foldl (bestStep fs) [((0, 0, 0), [])]
def bestL (fs : List Face) (every : List (List Nat)) (wants : List (Option Nat)) : List (Option Nat) := (leastW (bestW fs (every.zip wants))).2
/-- faces that are there -/
def CandOk (fs : List Face) (l : List Nat) : Prop := ∀ k ∈ l, k < fs.length
def f_costs : DSp := dsp3 fun a b c Q => ∃ (fs : List Face) (f w : Option Nat), a = .obj (fs.map eF) ∧ b = eO f ∧ c = eO w ∧ (∀ k, f = some k → k < fs.length) ∧ Q (.tup [.int (costL fs f w).1, .int (costL fs f w).2])
-- costs(case, face, want): 0 case 1 face 2 want
@[reducible] def b_costs : DTS :=
  (dSeq (dIfS (dB (dOp rdIs (dVar 1) (dC .non))) (dRet (dTup (dCons (dC (.int 0)) (dCons (dC (.int 0)) dNil)))) dNext)
    (dRet (dTup (dCons (dCB rdIntC (dCons (dAndV (dOp rdIsNot (dVar 2) (dC .non)) (dOp rdNe (dVar 2) (dVar 1))) dNil)) (dCons (dMeth f_rank (dVar 0) (dCons (dVar 1) dNil)) dNil)))))

theorem rd_costs : Rd 3 f_costs b_costs := by
  rintro XX ds Q ⟨_, _, _, rfl, fs, f, w, rfl, rfl, rfl, hk, hq⟩
  cases f with
  | none =>
    simp [b_costs, ini]
    exact hq
  | some k =>
    have hk' := hk k rfl
    simp [b_costs, ini]
    cases w with
    | none =>
      simp [f_rank, hk']
      simpa [costL] using hq
    | some j =>
      simp [f_rank, hk']
      by_cases e : j = k
      · subst e
        simpa [costL] using hq
      · have : (some j : Option Nat) ≠ some k := by simpa using e
        simpa [costL, e] using hq
theorem bestW_snoc (fs : List Face) (p : List (List Nat × Option Nat)) (q : List Nat × Option Nat) : bestW fs (p ++ [q]) = bestStep fs (bestW fs p) q := by unfold bestW; rw [List.foldl_append]; rfl
theorem cands_ne (l : List Nat) : cands l ≠ [] := by unfold cands; split <;> simp_all
theorem cands_some {l : List Nat} {f : Option Nat} (h : f ∈ cands l) : f.isSome = !l.isEmpty := by
  unfold cands at h
  split at h
  · rename_i e; subst e; simp at h; subst h; rfl
  · rename_i e
    simp at h
    obtain ⟨j, _, rfl⟩ := h
    cases l with
    | nil => exact absurd rfl e
    | cons => rfl
theorem snoc_ind {α : Type} {P : List α → Prop} (h0 : P []) (hs : ∀ l a, P l → P (l ++ [a])) (l : List α) : P l := by
  have : ∀ n, ∀ l : List α, l.length = n → P l := by
    intro n
    induction n with
    | zero => intro l h; rw [List.length_eq_zero_iff.mp h]; exact h0
    | succ n ih =>
      intro l h
      have hne : l ≠ [] := fun z => by rw [z] at h; cases h
      rw [← List.dropLast_concat_getLast hne]
      exact hs _ _ (ih _ (by simp [h]))
  exact this _ l rfl
theorem bestW_ok (fs : List Face) : ∀ p : List (List Nat × Option Nat), bestW fs p ≠ [] ∧ ∀ w ∈ bestW fs p, w.2.map Option.isSome = p.map fun q => !q.1.isEmpty := by
  refine snoc_ind ⟨by simp [bestW], fun w hw => by simp [bestW] at hw; subst hw; rfl⟩ fun p q ih => ?_
  rw [bestW_snoc]
  refine ⟨by simp [bestStep, cands_ne], fun w hw => ?_⟩
  unfold bestStep at hw
  obtain ⟨f, hf, rfl⟩ := List.mem_map.mp hw
  have hm := least_mem (ws := (bestW fs p).map (ext fs q.2 f)) (by simp [ih.1])
  obtain ⟨w', hw', e⟩ := List.mem_map.mp hm
  rw [← e]
  simp [ext, ih.2 w' hw', cands_some hf]
theorem kin_of {fs : List Face} {p : List (List Nat × Option Nat)} : ∀ a ∈ bestW fs p, ∀ b ∈ bestW fs p, kin a.2 b.2 := fun a ha b hb => ((bestW_ok fs p).2 a ha).trans ((bestW_ok fs p).2 b hb).symm
theorem row_len {fs : List Face} {p : List (List Nat × Option Nat)} {w : Way} (h : w ∈ bestW fs p) : w.2.length = p.length := by
  have := congrArg List.length ((bestW_ok fs p).2 w h)
  simpa using this
theorem best_len (fs : List Face) (n : Nat) : ∀ p : List (List Nat × Option Nat), (∀ q ∈ p, q.1.length ≤ n) → (bestW fs p).length ≤ n + 1 := by
  refine snoc_ind (fun _ => by simp [bestW]) fun p q ih h => ?_
  rw [bestW_snoc]
  have := h q (by simp)
  simp [bestStep, cands]
  split <;> simp <;> omega
@[simp] theorem eRi {a b : List (Option Nat)} : eR a = eR b ↔ a = b := by simp [eR]
@[simp] theorem cmp_eR {r n} : (eR r).cmp (n + 1) = true := by simp [eR]
@[simp] theorem cmp_eW {w : Way} {n} : (eW w).cmp (n + 2) = true := by simp [eW, eC]
theorem min_ways {k : Kd} {Q : KQ} {ws : List Way} (h0 : ws ≠ []) (hk : ∀ a ∈ ws, ∀ b ∈ ws, kin a.2 b.2) (q : Q k (eW (leastW ws))) : rdMinD k [.lst (ws.map eW)] Q := by
  refine ⟨by simpa using h0, ⟨cmps_map (fun w => cmp_eW) ws, fun x hx y hy => ?_, fun x hx => ?_⟩, fun m hm hle => ?_⟩
  · obtain ⟨a, ha, rfl⟩ := List.mem_map.mp hx
    obtain ⟨b, hb, rfl⟩ := List.mem_map.mp hy
    exact alkW (hk a ha b hb)
  · obtain ⟨a, ha, rfl⟩ := List.mem_map.mp hx
    unfold eW D.py
    simp
  · obtain ⟨a, ha, rfl⟩ := List.mem_map.mp hm
    have := least_one ha hk fun y hy => by
      rw [← ltW_py (hk y hy a ha)]
      exact hle _ (List.mem_map.mpr ⟨y, hy, rfl⟩)
    rw [this]
    exact q
def f_best_row : DSp := dsp3 fun a b c Q => ∃ (fs : List Face) (every : List (List Nat)) (wants : List (Option Nat)), a = .obj (fs.map eF) ∧ b = .lst (every.map eL) ∧ c = .lst (wants.map eO) ∧ every.length ≤ 1000 ∧ (∀ l ∈ every, l.length ≤ 100 ∧ CandOk fs l) ∧ Q (eR (bestL fs every wants))
-- best_row(case, every, wants): 0 case 1 every 2 wants 3 best 4 some 5 want 6 fresh 7 face 8 unlike 9 rank 10 ways 11 cost 12 row 13 change
@[reducible] def b_best_row : DTS :=
  (dSeq (dAsg (dLst (dCons (dTup (dCons (dTup (dCons (dC (.int 0)) (dCons (dC (.int 0)) (dCons (dC (.int 0)) dNil)))) (dCons (dLst dNil) dNil))) dNil)) (dgName 3))
    (dSeq (dFor (diZip (dCons (dVar 1) (dCons (dVar 2) dNil))) (dgTup 2 (dgCons (dgName 4) (dgCons (dgName 5) dgNil))) (dSeq (dAsgO 6 (dLst dNil))
    (dSeq (dFor (diSq (dIf (dB (dOp rdNe (dVar 4) (dLst dNil))) (dVar 4) (dLst (dCons (dC .non) dNil)))) (dgName 7) (dSeq (dAsg (dCall f_costs (dCons (dVar 0) (dCons (dVar 7) (dCons (dVar 5) dNil)))) (dgTup 2 (dgCons (dgName 8) (dgCons (dgName 9) dgNil))))
    (dSeq (dAsgO 10 (dLst dNil))
    (dSeq (dFor (diSq (dVar 3)) (dgTup 2 (dgCons (dgName 11) (dgCons (dgName 12) dgNil))) (dSeq (dAsg (dCB rdIntC (dCons (dAndV (dOp rdNe (dVar 12) (dLst dNil)) (dOp rdNe (dOp rdIx (dVar 12) (dNeg (dC (.int 1)))) (dVar 7))) dNil)) (dgName 13))
    (dApp 10 (dTup (dCons (dTup (dCons (dOp rdAdd (dOp rdIx (dVar 11) (dC (.int 0))) (dVar 13)) (dCons (dOp rdAdd (dOp rdIx (dVar 11) (dC (.int 1))) (dVar 8)) (dCons (dOp rdAdd (dOp rdIx (dVar 11) (dC (.int 2))) (dVar 9)) dNil)))) (dCons (dOp rdAdd (dVar 12) (dLst (dCons (dVar 7) dNil))) dNil))))))
    (dRel 10 (dApp 6 (dCB rdMinD (dCons (dVar 10) dNil))))))))
    (dRel 6 (dAsg (dVar 6) (dgName 3))))))
    (dRet (dOp rdIx (dCB rdMinD (dCons (dVar 3) dNil)) (dC (.int 1))))))

theorem zpD_map {α β : Type} {f : α → D} {g : β → D} (as : List α) (bs : List β) : zpD (as.map f) (bs.map g) = (as.zip bs).map fun q => D.tup [f q.1, g q.2] := by
  unfold zpD
  rw [List.zip_map, List.map_map]
  rfl
theorem rd_best_row : Rd 14 f_best_row b_best_row := by
  rintro XX ds Q ⟨_, _, _, rfl, fs, every, wants, rfl, rfl, rfl, hev, hc, hq⟩
  simp [b_best_row, ini]
  refine for_listS (every.zip wants) (fun q => D.tup [eL q.1, eO q.2]) (k := .sf)
    (fun best : List Way => [.v false (.obj (fs.map eF)), .v false (.lst (every.map eL)), .v false (.lst (wants.map eO)), .v true (.lst (best.map eW)), .e, .e, .e, .e, .e, .e, .e, .e, .e, .e])
    (fun p best => best = bestW fs p) [((0, 0, 0), [])] rfl (fun Qi h => by simp [zpD_map]; exact h) (by simp [eW, eC, eR]) rfl (fun p q r best e h => ?_) fun best h => ?_
  · have hcq : q.1.length ≤ 100 ∧ CandOk fs q.1 := hc q.1 (by
      have : q ∈ every.zip wants := by rw [e]; simp
      exact (List.of_mem_zip this).1)
    have hit : ∃ k n, kn k = some n ∧ ∀ Qi : Kd → List D → Prop, Qi k ((cands q.1).map eO) → diSq (dIf (dB (dOp rdNe (dVar 4) (dLst dNil))) (dVar 4) (dLst (dCons (dC D.non) dNil))) XX
        [.v false (.obj (fs.map eF)), .v false (.lst (every.map eL)), .v false (.lst (wants.map eO)), .v true (.lst (best.map eW)), .v false (eL q.1), .v false (eO q.2), .own true [], .e, .e, .e, .e, .e, .e, .e] Qi := by
      by_cases hn : q.1 = []
      · refine ⟨.fr, true, rfl, fun Qi h => ?_⟩
        simp [cands, hn] at h
        simp [hn, eL, h]
      · refine ⟨.sf, false, rfl, fun Qi h => ?_⟩
        simp [cands, hn] at h
        have e : List.map (eO ∘ some) q.1 = q.1.map eN := rfl
        rw [e] at h
        simp [hn, eL, h]
    obtain ⟨k, n, hkn, hit⟩ := hit
    simp
    refine for_listS (cands q.1) eO (k := k) (n := n)
      (fun acc : List Way => [.v false (.obj (fs.map eF)), .v false (.lst (every.map eL)), .v false (.lst (wants.map eO)), .v true (.lst (best.map eW)), .v false (eL q.1), .v false (eO q.2), .own true (acc.map eW), .e, .e, .e, .e, .e, .e, .e])
      (fun p acc => acc = p.map fun f => leastW (best.map (ext fs q.2 f))) [] hkn hit rfl rfl (fun p2 f r2 acc e2 h2 => ?_) fun acc h2 => ?_
    · subst h2
      have hf : ∀ j, f = some j → j < fs.length := fun j hj => by
        have : f ∈ cands q.1 := by rw [e2]; simp
        unfold cands at this
        split at this
        · simp at this; rw [this] at hj; cases hj
        · rw [hj] at this; simp at this; exact hcq.2 j this
      simp [f_costs]
      refine ⟨hf, ?_⟩
      refine for_listS best eW (k := .nw)
        (fun acc : List Way => [.v false (.obj (fs.map eF)), .v false (.lst (every.map eL)), .v false (.lst (wants.map eO)), .v true (.lst (best.map eW)), .v false (eL q.1), .v false (eO q.2), .own true ((p2.map fun f => leastW (best.map (ext fs q.2 f))).map eW), .v n (eO f), .v true (.int (costL fs f q.2).1), .v true (.int (costL fs f q.2).2), .own true (acc.map eW), .e, .e, .e])
        (fun p acc => acc = p.map (ext fs q.2 f)) [] rfl (fun Qi h => by simpa using h) (by simp) rfl (fun p3 w r3 acc e3 h3 => ?_) fun acc h3 => ?_
      · subst h3
        have hwl : w.2.length ≤ 1000 := by
          rw [row_len (fs := fs) (p := p) (by rw [← h, e3]; simp)]
          have := congrArg List.length e
          simp at this
          omega
        have hbl : best.length ≤ 101 := by
          rw [h]
          refine best_len fs 100 p fun q' hq' => ?_
          have : q' ∈ every.zip wants := by rw [e]; simp [hq']
          exact (hc _ (List.of_mem_zip this).1).1
        have h3l : p3.length < 100000 := by have := congrArg List.length e3; simp at this; omega
        obtain ⟨⟨c1, c2, c3⟩, row⟩ := w
        simp [eW]
        by_cases hr : row = []
        · subst hr
          refine .inl ⟨by simp [eR], h3l, ?_⟩
          simp [eC, eR, ext, chgTo]
        · refine .inr ⟨by simp [eR, hr], ?_⟩
          have hg := List.getLast?_eq_some_getLast hr
          have hx : atI (row.map eO) (-1) = some (eO (row.getLast hr)) := by
            rw [atI_last (by simpa using hr), List.getLast?_map, hg]
            rfl
          have hwl' : row.length ≤ 1000 := hwl
          simp [eC, eR, hx, ext, chgTo, h3l, hr, hg]
          omega
      · subst h3
        have hpl : p2.length < 100000 := by
          have := congrArg List.length e2
          have h2 : (cands q.1).length ≤ 101 := by unfold cands; split <;> simp <;> omega
          simp at this
          omega
        simp
        refine ⟨hpl, ?_⟩
        have hk : ∀ a ∈ best.map (ext fs q.2 f), ∀ b ∈ best.map (ext fs q.2 f), kin a.2 b.2 := fun a ha b hb => by
          obtain ⟨a', ha', rfl⟩ := List.mem_map.mp ha
          obtain ⟨b', hb', rfl⟩ := List.mem_map.mp hb
          rw [h] at ha' hb'
          have := kin_of a' ha' b' hb'
          simp [kin, ext] at this ⊢
          exact this
        have := min_ways (k := .nw) (Q := fun k d => stn k d = some true ∧ d = eW (leastW (List.map (ext fs q.2 f) best))) (ws := best.map (ext fs q.2 f)) (by rw [h]; simp [(bestW_ok fs p).1]) hk ⟨rfl, rfl⟩
        rw [List.map_map] at this
        exact this
    · subst h2
      simp
      rw [bestW_snoc, ← h]
      simp [bestStep]
  · simp
    refine min_ways (by rw [h]; exact (bestW_ok fs _).1) (by rw [h]; exact kin_of) ?_
    rw [h]
    simp [eW, eR]
    simpa [bestL, eR] using hq
end HD

set_option Elab.async false
set_option linter.all false
set_option maxRecDepth 100000
set_option maxHeartbeats 1000000
/-! readings: shown, runs -/
namespace HD
open PySem PySem.Spec PyProof.Rows L2
theorem having_ok (fs : List Face) (l : List Int) : CandOk fs (havingL fs l) := fun k hk => by
  have := (List.mem_filter.mp hk).1
  simpa using this
theorem having_len (fs : List Face) (l : List Int) : (havingL fs l).length ≤ fs.length := by
  have := List.length_filter_le (fun k => l.all (hasS fs k)) (List.range fs.length)
  rw [List.length_range] at this
  exact this
theorem every_ok {fs : List Face} {t : List Int} (hf : fs.length ≤ 100) : ∀ l ∈ everyL fs t, l.length ≤ 100 ∧ CandOk fs l := fun l hl => by
  obtain ⟨c, _, rfl⟩ := List.mem_map.mp hl
  exact ⟨Nat.le_trans (having_len fs c) hf, having_ok fs c⟩
theorem every_len (fs : List Face) (t : List Int) : (everyL fs t).length ≤ t.length := by
  unfold everyL
  rw [List.length_map]
  exact partsL_len t
theorem flat_rep (d : D) : ∀ n, (List.replicate n [d]).flatten = List.replicate n d
  | 0 => rfl
  | n + 1 => by rw [List.replicate_succ, List.flatten_cons, flat_rep d n]; rfl
def nones (n : Nat) : List (Option Nat) := List.replicate n none
@[simp] theorem nones_e (n : Nat) : List.replicate n D.non = (nones n).map eO := by
  rw [nones, List.map_replicate]
  rfl
def shownL (fs : List Face) (t : List Int) : List (Option Nat) := bestL fs (everyL fs t) (nones (everyL fs t).length)
def f_shown : DSp := dsp2 fun a b Q => ∃ (fs : List Face) (t : List Int), a = .obj (fs.map eF) ∧ b = .lst (t.map .int) ∧ fs.length ≤ 100 ∧ t.length ≤ 1000 ∧ TextOk t ∧ Q (eR (shownL fs t))
-- shown(case, text): 0 case 1 text 2 every
@[reducible] def b_shown : DTS :=
  (dSeq (dDrop (dCall f_need_signs2 (dCons (dVar 1) dNil)))
    (dSeq (dAsg (dCall f_all_choices (dCons (dVar 0) (dCons (dVar 1) dNil))) (dgName 2))
    (dRet (dCall f_best_row (dCons (dVar 0) (dCons (dVar 2) (dCons (dOp rdMul (dLst (dCons (dC .non) dNil)) (dCB rdLen (dCons (dVar 2) dNil))) dNil)))))))

theorem rd_shown : Rd 3 f_shown b_shown := by
  rintro XX ds Q ⟨_, _, rfl, fs, t, rfl, rfl, hf, hl, ht, hq⟩
  have he := every_len fs t
  simp [b_shown, ini, f_need_signs2, hl, ht, f_all_choices, f_best_row]
  refine ⟨by omega, by omega, by omega, by omega, every_ok hf, hq⟩
/-! runs -/
abbrev Run := Nat × Nat × Option Nat
def eRun (q : Run) : D := .tup [eN q.1, eN q.2.1, eO q.2.2]
@[simp] theorem flat_eRun {q} : (eRun q).flat = true := by simp [eRun]
@[simp] theorem cmp_eRun {q n} : (eRun q).cmp (n + 1) = true := by simp [eRun]
@[simp] theorem cs_run {n} {l : List Run} : D.cmps (n + 1) (l.map eRun) = true := cmps_map (fun _ => cmp_eRun) l
@[simp] theorem cs_run59 {l : List Run} : D.cmps 59 (l.map eRun) = true := cs_run
def rstep (acc : List Run) (q : (Nat × Nat) × Option Nat) : List Run := match acc.getLast? with
  | some l => if l.2.2 = q.2 then acc.dropLast ++ [(l.1, q.1.2, q.2)] else acc ++ [(q.1.1, q.1.2, q.2)]
  | none => acc ++ [(q.1.1, q.1.2, q.2)]
def runsL (t : List Int) (row : List (Option Nat)) : List Run := ((boundsL t).zip row).foldl rstep []
theorem rstep_len (acc : List Run) (q) : (rstep acc q).length ≤ acc.length + 1 := by
  unfold rstep
  split
  · split <;> simp
  · simp
theorem runs_len (p : List ((Nat × Nat) × Option Nat)) : (p.foldl rstep []).length ≤ p.length := by
  have : ∀ (p : List ((Nat × Nat) × Option Nat)) (acc : List Run), (p.foldl rstep acc).length ≤ acc.length + p.length := by
    intro p
    induction p with
    | nil => intro acc; simp
    | cons q p ih =>
      intro acc
      have h1 := ih (rstep acc q)
      have h2 := rstep_len acc q
      rw [List.foldl_cons, List.length_cons]
      omega
  simpa using this p []
def f_runs_of : DSp := dsp2 fun a b Q => ∃ (t : List Int) (row : List (Option Nat)), a = .lst (t.map .int) ∧ b = eR row ∧ t.length ≤ 1000 ∧ row.length ≤ 1000 ∧ Q (.lst ((runsL t row).map eRun))
-- runs_of(text, row): 0 text 1 row 2 found 3 begin 4 end 5 face
@[reducible] def b_runs_of : DTS :=
  (dSeq (dAsgO 2 (dLst dNil))
    (dSeq (dFor (diZip (dCons (dCall f_bounds (dCons (dVar 0) dNil)) (dCons (dVar 1) dNil))) (dgTup 2 (dgCons (dgTup 2 (dgCons (dgName 3) (dgCons (dgName 4) dgNil))) (dgCons (dgName 5) dgNil))) (dIfS (dAnd (dB (dOp rdNe (dVar 2) (dLst dNil))) (dB (dOp rdEq (dOp rdIx (dOp rdIx (dVar 2) (dNeg (dC (.int 1)))) (dC (.int 2))) (dVar 5)))) (dSub 2 (dTup (dCons (dOp rdIx (dOp rdIx (dVar 2) (dNeg (dC (.int 1)))) (dC (.int 0))) (dCons (dVar 4) (dCons (dVar 5) dNil)))) (dNeg (dC (.int 1)))) (dApp 2 (dTup (dCons (dVar 3) (dCons (dVar 4) (dCons (dVar 5) dNil)))))))
    (dRetV 2)))

theorem rd_runs_of : Rd 6 f_runs_of b_runs_of := by
  rintro XX ds Q ⟨_, _, rfl, t, row, rfl, rfl, ht, hr, hq⟩
  simp [b_runs_of, ini]
  refine for_listS ((boundsL t).zip row) (fun q => D.tup [eP q.1, eO q.2]) (k := .sf)
    (fun acc : List Run => [.v false (.lst (t.map .int)), .v false (eR row), .own true (acc.map eRun), .e, .e, .e]) (fun p acc => acc = p.foldl rstep []) [] rfl (fun Qi h => by
      simp [f_bounds, ht, eR, zpD_map]; exact h) rfl rfl (fun p q r acc e h => ?_) fun acc h => ?_
  · subst h
    have hlen : (p.foldl rstep []).length ≤ 1000 := by
      have h1 := runs_len p
      have h2 := congrArg List.length e
      simp at h2
      omega
    have hstep : (p ++ [q]).foldl rstep [] = rstep (p.foldl rstep []) q := by rw [List.foldl_append]; rfl
    rw [hstep]
    generalize p.foldl rstep [] = acc at hlen
    simp [eP]
    by_cases hn : acc = []
    · subst hn
      refine .inl ⟨rfl, ?_⟩
      simp [rstep, eRun]
    · refine .inr ⟨by simp [hn], ?_⟩
      have hg := List.getLast?_eq_some_getLast hn
      have hx : atI (acc.map eRun) (-1) = some (eRun (acc.getLast hn)) := by
        rw [atI_last (by simpa using hn), List.getLast?_map, hg]
        rfl
      simp [hx, eRun]
      by_cases c : (acc.getLast hn).2.2 = q.2
      · refine .inr ⟨c, _, ixN_last (List.length_pos_iff.mpr hn), ?_⟩
        have := set_last (l := acc.map eRun) (a := D.tup [eN (acc.getLast hn).1, eN q.1.2, eO q.2]) (by simpa using hn)
        simp at this
        rw [this]
        simp [rstep, hg, c, eRun]
      · refine .inl ⟨c, by omega, ?_⟩
        simp [rstep, hg, c, eRun]
  · subst h
    simp
    exact hq
def f_runs : DSp := dsp2 fun a b Q => ∃ (fs : List Face) (t : List Int), a = .obj (fs.map eF) ∧ b = .lst (t.map .int) ∧ fs.length ≤ 100 ∧ t.length ≤ 1000 ∧ TextOk t ∧ Q (.lst ((runsL t (shownL fs t)).map eRun))
-- runs(case, text): 0 case 1 text
@[reducible] def b_runs : DTS :=
  (dRet (dCall f_runs_of (dCons (dVar 1) (dCons (dCall f_shown (dCons (dVar 0) (dCons (dVar 1) dNil))) dNil))))

theorem bestL_len (fs : List Face) (every : List (List Nat)) (wants : List (Option Nat)) (h : wants.length = every.length) : (bestL fs every wants).length = every.length := by
  unfold bestL
  rw [row_len (least_mem (bestW_ok fs _).1), List.length_zip, h, Nat.min_self]
theorem shown_len (fs : List Face) (t : List Int) : (shownL fs t).length = (everyL fs t).length := bestL_len _ _ _ (by simp [nones])
theorem rd_runs : Rd 2 f_runs b_runs := by
  rintro XX ds Q ⟨_, _, rfl, fs, t, rfl, rfl, hf, hl, ht, hq⟩
  have h1 := shown_len fs t
  have h2 := every_len fs t
  simp [b_runs, ini, f_shown, f_runs_of, hf, hl, ht]
  exact ⟨by omega, hq⟩
end HD

set_option Elab.async false
set_option linter.all false
set_option maxRecDepth 100000
set_option maxHeartbeats 1000000
/-! readings: the law's draws of signs and faces -/
namespace HD
open PySem PySem.Spec PyProof.Rows L2
@[simp] theorem s_taken {XX : Exn → Prop} {m : Int} {Q : D → Prop} : f_taken XX [.row, .int m] Q = (0 < m ∧ m < 1073741824 ∧ ∀ i, 0 ≤ i → i < m → Q (.int i)) := propext ⟨fun ⟨_, e, h⟩ => by cases e; exact h, fun h => ⟨_, rfl, h⟩⟩
theorem ints_of_rel {P : Int → Prop} : ∀ {ys : List D}, (∀ y ∈ ys, ∃ j, y = .int j ∧ P j) → ∃ ns : List Int, ys = ns.map .int ∧ ∀ n ∈ ns, P n
  | [], _ => ⟨[], rfl, fun _ h => nomatch h⟩
  | y :: ys, h => by
    obtain ⟨j, rfl, hj⟩ := h y (by simp)
    obtain ⟨ns, rfl, hn⟩ := ints_of_rel (ys := ys) fun y hy => h y (by simp [hy])
    exact ⟨j :: ns, rfl, fun n hn' => (List.mem_cons.mp hn').elim (fun e => e ▸ hj) (hn n)⟩
theorem nodup_sub {α : Type} [DecidableEq α] : ∀ {a b : List α}, a.Nodup → (∀ x ∈ a, x ∈ b) → a.length ≤ b.length
  | [], b, _, _ => Nat.zero_le _
  | x :: a, b, hn, hs => by
    have hx : x ∈ b := hs x (by simp)
    have := nodup_sub (a := a) (b := b.erase x) (List.nodup_cons.mp hn).2 fun y hy => by
      have hne : y ≠ x := fun e => (List.nodup_cons.mp hn).1 (e ▸ hy)
      exact (List.mem_erase_of_ne hne).mpr (hs y (by simp [hy]))
    rw [List.length_erase_of_mem hx] at this
    have h0 : 0 < b.length := List.length_pos_of_mem hx
    rw [List.length_cons]
    omega
theorem sorted_len {a b : List Int} (h : a.Pairwise (· < ·)) (hs : ∀ k : Int, k ∈ a ↔ k ∈ b) : a.length ≤ b.length :=
  nodup_sub (h.imp fun h => by omega) fun x hx => (hs x).mp hx
/-! pool -/
structure PoolOk (l m : List Int) : Prop where
  ls : l.Pairwise (· < ·)
  ms : m.Pairwise (· < ·)
  lb : ∀ s ∈ l, 0 ≤ s ∧ s < 800
  mb : ∀ s ∈ m, 800 ≤ s ∧ s < 1000
  ln : l ≠ []
  mn : m ≠ []
  ll : l.length ≤ 92
  ml : m.length ≤ 5
def ePool (l m : List Int) : D := .tup [.lst (l.map .int), .lst (m.map .int)]
def f_pool : DSp := dsp1 fun a Q => a = .row ∧ ∀ l m, PoolOk l m → Q (ePool l m)
-- _law_pool(_law_row): 0 _law_row 1 _law_begin 2 _law_letters 3 _law_marks 4 _law_k
@[reducible] def b_pool : DTS :=
  (dSeq (dAsg (dCall f_taken (dCons (dVar 0) (dCons (dC (.int 700)) dNil))) (dgName 1))
    (dSeq (dAsg (dLc (diRg1 (dCons (dOp rdAdd (dC (.int 2)) (dOp rdIx (dLst (dCons (dCall f_taken (dCons (dVar 0) (dCons (dC (.int 6)) dNil))) (dCons (dCall f_taken (dCons (dVar 0) (dCons (dC (.int 89)) dNil))) dNil))) (dOp rdDiv (dCall f_taken (dCons (dVar 0) (dCons (dC (.int 6)) dNil))) (dC (.int 5))))) dNil)) (dgName 4) dYes (dOp rdAdd (dVar 1) (dVar 4)) [4]) (dgName 2))
    (dSeq (dAsg (dLc (diRg1 (dCons (dC (.int 3)) dNil)) (dgName 4) dYes (dOp rdAdd (dOp rdAdd (dC (.int 800)) (dCall f_taken (dCons (dVar 0) (dCons (dC (.int 190)) dNil)))) (dVar 4)) [4]) (dgName 3))
    (dSeq (dIfS (dB (dOp rdEq (dCall f_taken (dCons (dVar 0) (dCons (dC (.int 6)) dNil))) (dC (.int 5)))) (dSeq (dAsg (dOp rdAdd (dVar 2) (dLst (dCons (dC (.int 0)) (dCons (dC (.int 799)) dNil)))) (dgName 2))
    (dAsg (dOp rdAdd (dVar 3) (dLst (dCons (dC (.int 800)) (dCons (dC (.int 999)) dNil)))) (dgName 3))) dNext)
    (dRet (dTup (dCons (dSortSet (dVar 2)) (dCons (dSortSet (dVar 3)) dNil))))))))

theorem rd_pool : Rd 5 f_pool b_pool := by
  rintro XX ds Q ⟨_, rfl, rfl, hq⟩
  simp [b_pool, ini]
  intro beg hb0 hb1
  have rest : ∀ n : Nat, 2 ≤ n → n ≤ 90 → ∀ Q' : KQ, (∀ ls : List Int, ls.length = n → (∀ s ∈ ls, 0 ≤ s ∧ s < 790) → Q' .fr (.lst (ls.map .int))) →
      dLc (fun _ _ Qi => Qi .fr (rgD 0 n)) (dgName 4) dYes (dOp rdAdd (dVar 1) (dVar 4)) [4] XX [Slot.v false .row, Slot.v true (.int beg), .e, .e, .e] Q' := fun n h2 h90 Q' h => by
    refine lc_map (List.range n) (fun i => D.int (0 + ((i : Nat) : Int))) (k := .fr) .fr (fun i => D.int (beg + (i : Int))) rfl (fun Qi h => h) (by simp; omega) rfl (by decide) (fun i hi K hk => ?_) ?_
    · simp [wipeR]
      exact hk _ kf
    · have := h ((List.range n).map fun (i : Nat) => beg + (i : Int)) (by simp) (fun s hs => by
        obtain ⟨i, hi, rfl⟩ := List.mem_map.mp hs
        have : i < n := by simpa using hi
        omega)
      rw [List.map_map] at this
      exact this
  have tail : ∀ (s2 : Slot) (Q' : KQ), (∀ ns : List Int, ns.length = 3 → (∀ j ∈ ns, 800 ≤ j ∧ j < 1000) → Q' .fr (.lst (ns.map .int))) → dLc (diRg1 (dCons (dC (.int 3)) dNil)) (dgName 4) dYes (dOp rdAdd (dOp rdAdd (dC (.int 800)) (dCall f_taken (dCons (dVar 0) (dCons (dC (.int 190)) dNil)))) (dVar 4)) [4] XX
      [Slot.v false .row, Slot.v true (.int beg), s2, .e, .e] Q' := fun s2 Q' h => by
    refine lc_rel (List.range 3) (fun i => D.int (0 + ((i : Nat) : Int))) (k := .fr) .fr (fun _ y => ∃ j : Int, y = .int j ∧ 800 ≤ j ∧ j < 1000) rfl (fun Qi h => by simp; exact h) (by simp) rfl (by decide) (fun i hi K hk => ?_) fun ys hl hy => ?_
    · have : i < 3 := by simpa using hi
      simp [wipeR]
      intro a ha hb
      exact hk _ _ kf ⟨_, rfl, by omega, by omega⟩
    · obtain ⟨ns, rfl, hn⟩ := ints_of_rel (P := fun j => 800 ≤ j ∧ j < 1000) (ys := ys) fun y hy' => by
        obtain ⟨i, hi, e⟩ := List.mem_iff_getElem.mp hy'
        have h3 : i < (List.range 3).length := by rw [← hl]; exact hi
        exact hy i _ y (List.getElem?_eq_getElem h3) (by rw [← e]; exact List.getElem?_eq_getElem hi)
      exact h ns (by simpa using hl) hn
  have last : ∀ ls ms : List Int, ls ≠ [] → ms ≠ [] → ls.length ≤ 92 → ms.length ≤ 5 → (∀ s ∈ ls, 0 ≤ s ∧ s < 800) → (∀ s ∈ ms, 800 ≤ s ∧ s < 1000) → ∀ l : List Int, l.Pairwise (· < ·) → (∀ k : Int, k ∈ l ↔ k ∈ ls) → ∀ m : List Int, m.Pairwise (· < ·) → (∀ k : Int, k ∈ m ↔ k ∈ ms) → Q (.tup [.lst (l.map .int), .lst (m.map .int)]) :=
    fun ls ms h1 h2 h3 h4 h5 h6 l hl hlm m hm hmm => hq l m ⟨hl, hm, fun s hs => h5 s ((hlm s).mp hs), fun s hs => h6 s ((hmm s).mp hs), (fun z => by
      obtain ⟨a, ha⟩ := List.exists_mem_of_ne_nil _ h1
      have := (hlm a).mpr ha
      rw [z] at this
      exact nomatch this), (fun z => by
      obtain ⟨a, ha⟩ := List.exists_mem_of_ne_nil _ h2
      have := (hmm a).mpr ha
      rw [z] at this
      exact nomatch this), Nat.le_trans (sorted_len hl hlm) h3, Nat.le_trans (sorted_len hm hmm) h4⟩
  have done : ∀ ls ms : List Int, 2 ≤ ls.length → ls.length ≤ 90 → (∀ s ∈ ls, 0 ≤ s ∧ s < 790) → ms.length = 3 → (∀ j ∈ ms, 800 ≤ j ∧ j < 1000) → ∀ (i : Int), 0 ≤ i → i < 6 → (¬i = 5 ∧ ls.length ≤ 4000 ∧ ∀ (ns' : List Int), ns'.Pairwise (· < ·) → (∀ (k : Int), k ∈ ns' ↔ k ∈ ls) → ms.length ≤ 4000 ∧ ∀ (m' : List Int), m'.Pairwise (· < ·) → (∀ (k : Int), k ∈ m' ↔ k ∈ ms) → Q (D.tup [D.lst (List.map D.int ns'), D.lst (List.map D.int m')])) ∨
      i = 5 ∧ ls.length ≤ 99998 ∧ ms.length ≤ 99998 ∧ ∃ ns, List.map D.int ls ++ [D.int 0, D.int 799] = List.map D.int ns ∧ ns.length ≤ 4000 ∧ ∀ (ns' : List Int), ns'.Pairwise (· < ·) → (∀ (k : Int), k ∈ ns' ↔ k ∈ ns) → ∃ ns, List.map D.int ms ++ [D.int 800, D.int 999] = List.map D.int ns ∧ ns.length ≤ 4000 ∧
        ∀ (m' : List Int), m'.Pairwise (· < ·) → (∀ (k : Int), k ∈ m' ↔ k ∈ ns) → Q (D.tup [D.lst (List.map D.int ns'), D.lst (List.map D.int m')]) := fun ls ms h2 h90 hb hm hmb i hi0 hi6 => by
    have ne1 : ls ≠ [] := fun z => by rw [z] at h2; simp at h2
    have ne2 : ms ≠ [] := fun z => by rw [z] at hm; simp at hm
    have b1 : ∀ s ∈ ls, 0 ≤ s ∧ s < 800 := fun s hs => by have := hb s hs; omega
    by_cases h5 : i = 5
    · refine .inr ⟨h5, by omega, by omega, ls ++ [0, 799], by simp, by simp; omega, fun l hl hlm => ⟨ms ++ [800, 999], by simp, by simp; omega, fun m hm' hmm => ?_⟩⟩
      refine last (ls ++ [0, 799]) (ms ++ [800, 999]) (by simp) (by simp) (by simp; omega) (by simp; omega) (fun s hs => ?_) (fun s hs => ?_) l hl hlm m hm' hmm
      · simp at hs
        rcases hs with hs | hs | hs
        · exact b1 s hs
        · omega
        · omega
      · simp at hs
        rcases hs with hs | hs | hs
        · exact hmb s hs
        · omega
        · omega
    · exact .inl ⟨h5, by omega, fun l hl hlm => ⟨by omega, fun m hm' hmm => last ls ms ne1 ne2 (by omega) (by omega) b1 hmb l hl hlm m hm' hmm⟩⟩
  refine lc_go ?_
  simp
  intro i _ _ i1 _ _ i2 _ _
  have h5 : i2 / 5 = 0 ∨ i2 / 5 = 1 := by omega
  rcases h5 with h5 | h5 <;> rw [h5] <;> simp
  · refine ⟨by omega, by omega, rest (2 + i).toNat (by omega) (by omega) _ fun ls hl hb => ?_⟩
    simp
    refine tail _ _ fun ms hm hmb => ?_
    simp
    exact done ls ms (by omega) (by omega) hb hm hmb
  · refine ⟨by omega, by omega, rest (2 + i1).toNat (by omega) (by omega) _ fun ls hl hb => ?_⟩
    simp
    refine tail _ _ fun ms hm hmb => ?_
    simp
    exact done ls ms (by omega) (by omega) hb hm hmb
end HD

set_option Elab.async false
set_option linter.all false
set_option maxRecDepth 100000
set_option maxHeartbeats 1000000
/-! readings: the law's texts, their clusters -/
namespace HD
open PySem PySem.Spec PyProof.Rows L2
/-! slices -/
theorem cutD_nat {α : Type} {l : List α} {a b : Nat} : cutD l (some (a : Int)) (some (b : Int)) = (l.drop a).take (b - a) := by
  unfold cutD
  rw [HT.sIx_nat, HT.sIx_nat]
  by_cases ha : a ≤ l.length
  · by_cases hb : b ≤ l.length
    · rw [Nat.min_eq_left ha, Nat.min_eq_left hb]
    · rw [Nat.min_eq_left ha, Nat.min_eq_right (by omega)]
      rw [List.take_of_length_le (by simp), List.take_of_length_le (by simp; omega)]
  · rw [Nat.min_eq_right (by omega : l.length ≤ a), List.drop_of_length_le (by omega), List.drop_of_length_le (by omega)]
    simp
theorem cutD_from {α : Type} {l : List α} {a : Nat} : cutD l (some (a : Int)) none = l.drop a := by
  unfold cutD
  rw [HT.sIx_nat, HT.sIx_none]
  by_cases ha : a ≤ l.length
  · rw [Nat.min_eq_left ha, List.take_of_length_le (by simp)]
  · rw [Nat.min_eq_right (by omega), List.drop_of_length_le (by omega), List.drop_of_length_le (by omega)]
    simp
theorem cutD_to {α : Type} {l : List α} {b : Nat} : cutD l none (some (b : Int)) = l.take b := by
  unfold cutD
  rw [HT.sIx_nat, HT.sIx_none, List.drop_zero, Nat.sub_zero]
  by_cases hb : b ≤ l.length
  · rw [Nat.min_eq_left hb]
  · rw [Nat.min_eq_right (by omega), List.take_of_length_le (by omega), List.take_of_length_le (by omega)]
theorem cutD_map {α β : Type} {f : α → β} {l : List α} {lo hi} : cutD (l.map f) lo hi = (cutD l lo hi).map f := by
  unfold cutD
  simp
@[simp] theorem cutD_1 {α : Type} {l : List α} : cutD l (some 1) none = l.tail := by
  have := cutD_from (l := l) (a := 1)
  rw [List.drop_one] at this
  exact this
/-! signs -/
def SignsR (n : Nat) (t : List Int) : Prop := t.length ≤ n ∧ TextOk t
def f_signs : DSp := dsp3 fun a b c Q => a = .row ∧ ∃ l m, PoolOk l m ∧ b = ePool l m ∧ ∃ n : Nat, c = .int n ∧ n ≤ 200 ∧ ∀ t, SignsR n t → Q (.lst (t.map .int))
-- _law_signs(_law_row, _law_pool_here, _law_most): 0 _law_row 1 _law_pool_here 2 _law_most 3 _law_found 4 _law_k 5 _law_way 6 _law_some
@[reducible] def b_signs : DTS :=
  (dSeq (dAsgO 3 (dLst dNil))
    (dSeq (dFor (diRg1 (dCons (dCall f_taken (dCons (dVar 0) (dCons (dOp rdAdd (dVar 2) (dC (.int 1))) dNil))) dNil)) (dgName 4) (dSeq (dAsg (dCall f_taken (dCons (dVar 0) (dCons (dC (.int 24)) dNil))) (dgName 5))
    (dSeq (dAsg (dOp rdIx (dVar 1) (dCB rdIntC (dCons (dOp rdEq (dOp rdMod (dVar 5) (dC (.int 4))) (dC (.int 3))) dNil))) (dgName 6))
    (dApp 3 (dOp rdIx (dLst (dCons (dOp rdIx (dVar 6) (dCall f_taken (dCons (dVar 0) (dCons (dCB rdLen (dCons (dVar 6) dNil)) dNil)))) (dCons (dCall f_taken (dCons (dVar 0) (dCons (dC (.int 1000)) dNil))) dNil))) (dCB rdIntC (dCons (dOp rdEq (dVar 5) (dC (.int 23))) dNil)))))))
    (dRetV 3)))

def f_signs2 : DSp := dsp3 fun a b c Q => a = .row ∧ ∃ l m, PoolOk l m ∧ b = ePool l m ∧ ∃ n : Nat, c = .int n ∧ n ≤ 200 ∧ ∀ t, SignsR (if n = 40 then 200 else n) t → Q (.lst (t.map .int))
-- _law_signs(_law_row, _law_pool_here, _law_most): 0 _law_row 1 _law_pool_here 2 _law_most 3 _law_found 4 _law_many 5 _law_last 6 _law_k 7 _law_way 8 _law_some
@[reducible] def b_signs2 : DTS :=
  (dSeq (dAsgO 3 (dLst dNil))
    (dSeq (dAsg (dCall f_taken (dCons (dVar 0) (dCons (dOp rdMul (dC (.int 12)) (dOp rdAdd (dVar 2) (dC (.int 1)))) dNil))) (dgName 4))
    (dSeq (dAsg (dOp rdMul (dC (.int 11)) (dOp rdAdd (dVar 2) (dC (.int 1)))) (dgName 5))
    (dSeq (dFor (diRg1 (dCons (dIf (dOr (dB (dOp rdLt (dVar 4) (dVar 5))) (dB (dOp rdNe (dVar 2) (dC (.int 40))))) (dOp rdMod (dVar 4) (dOp rdAdd (dVar 2) (dC (.int 1)))) (dOp rdAdd (dOp rdSub (dVar 4) (dVar 5)) (dC (.int 160)))) dNil)) (dgName 6) (dSeq (dAsg (dCall f_taken (dCons (dVar 0) (dCons (dC (.int 24)) dNil))) (dgName 7))
    (dSeq (dAsg (dOp rdIx (dVar 1) (dCB rdIntC (dCons (dOp rdEq (dOp rdMod (dVar 7) (dC (.int 4))) (dC (.int 3))) dNil))) (dgName 8))
    (dApp 3 (dOp rdIx (dLst (dCons (dOp rdIx (dVar 8) (dCall f_taken (dCons (dVar 0) (dCons (dCB rdLen (dCons (dVar 8) dNil)) dNil)))) (dCons (dCall f_taken (dCons (dVar 0) (dCons (dC (.int 1000)) dNil))) dNil))) (dCB rdIntC (dCons (dOp rdEq (dVar 7) (dC (.int 23))) dNil)))))))
    (dRetV 3)))))

theorem pick {l m : List Int} (h : PoolOk l m) (c : Prop) [Decidable c] : ∃ x : List Int, atI [D.lst (l.map .int), D.lst (m.map .int)] (if c then 1 else 0) = some (.lst (x.map .int)) ∧ x ≠ [] ∧ (∀ s ∈ x, 0 ≤ s ∧ s < 1000) ∧ x.length ≤ 100 := by
  by_cases hc : c
  · exact ⟨m, by simp [hc], h.mn, fun s hs => by have := h.mb s hs; omega, by have := h.ml; omega⟩
  · exact ⟨l, by simp [hc], h.ln, fun s hs => by have := h.lb s hs; omega, by have := h.ll; omega⟩
theorem atI_int {α : Type} {l : List α} {j : Int} (h0 : 0 ≤ j) (h1 : j < l.length) : ∃ a, atI l j = some a ∧ a ∈ l := by
  have e : j = ((j.toNat : Nat) : Int) := by omega
  have h2 : j.toNat < l.length := by omega
  rw [e]
  exact ⟨_, atI_nat h2, List.getElem_mem h2⟩
theorem sign_step {l m : List Int} (hp : PoolOk l m) {t : List Int} {i : Nat} (hi : i ≤ 1000) (h : t.length = i ∧ TextOk t) {way : Int} :
  ∃ d,
    atI [D.lst (List.map D.int l), D.lst (List.map D.int m)] (if way % 4 = 3 then 1 else 0) = some d ∧
      ((d.flat = false ∧
          t.length < 100000 ∧
            rdLen Kd.sf [d] fun k d_1 =>
              f_taken (fun x => False) [D.row, d_1] fun d2 =>
                rdIx Kd.sf d Kd.fr d2 fun k d =>
                  ∀ (i_1 : Int),
                    0 ≤ i_1 →
                      i_1 < 1000 →
                        ∃ d_2,
                          atI [d, D.int i_1] (if way = 23 then 1 else 0) = some d_2 ∧
                            stn (if d.flat = true then Kd.fr else k) d_2 = some true ∧
                              ∃ b', List.map D.int t ++ [d_2] = List.map D.int b' ∧ b'.length = i + 1 ∧ TextOk b') ∨
        d.flat = true ∧
          t.length < 100000 ∧
            rdLen Kd.nw [d] fun k d_1 =>
              f_taken (fun x => False) [D.row, d_1] fun d2 =>
                rdIx Kd.nw d Kd.fr d2 fun k d =>
                  ∀ (i_1 : Int),
                    0 ≤ i_1 →
                      i_1 < 1000 →
                        ∃ d_2,
                          atI [d, D.int i_1] (if way = 23 then 1 else 0) = some d_2 ∧
                            stn (if d.flat = true then Kd.fr else k) d_2 = some true ∧
                              ∃ b', List.map D.int t ++ [d_2] = List.map D.int b' ∧ b'.length = i + 1 ∧ TextOk b') := by
  obtain ⟨x, hx, hne, hb, hl⟩ := pick hp (way % 4 = 3)
  have h0 : 0 < x.length := List.length_pos_iff.mpr hne
  refine ⟨_, hx, .inl ⟨by simp, by omega, ?_⟩⟩
  simp
  refine ⟨h0, by omega, fun j hj0 hj1 => ?_⟩
  obtain ⟨a, ha, hm⟩ := atI_int hj0 hj1
  refine ⟨.int a, by rw [atI_map, ha]; rfl, fun v hv0 hv1 => ?_⟩
  have go : ∀ z : Int, 0 ≤ z → z < 1000 → ∃ b', List.map D.int t ++ [D.int z] = List.map D.int b' ∧ b'.length = i + 1 ∧ TextOk b' := fun z h0 h1 => ⟨t ++ [z], by simp, by simp [h.1], fun s hs => by
    rcases List.mem_append.mp hs with hs | hs
    · exact h.2 s hs
    · rw [List.mem_singleton.mp hs]; exact ⟨h0, h1⟩⟩
  by_cases hw : way = 23
  · exact ⟨.int v, by simp [hw], by simp, go v hv0 hv1⟩
  · exact ⟨.int a, by simp [hw], by simp, go a (hb a hm).1 (hb a hm).2⟩
theorem rd_signs : Rd 7 f_signs b_signs := by
  rintro XX ds Q ⟨_, _, _, rfl, rfl, l, m, hp, rfl, n, rfl, hn, hq⟩
  simp [b_signs, ini]
  refine for_go ?_
  simp
  refine ⟨by omega, fun N hN0 hN1 => ⟨by omega, by omega, ?_⟩⟩
  refine for_rangeS 0 N.toNat (fun t : List Int => [.v false .row, .v false (ePool l m), .v false (.int n), .own true (t.map .int), .e, .e, .e]) (fun i t => t.length = i ∧ TextOk t) [] (fun Q h => h) rfl ⟨rfl, fun _ h => nomatch h⟩ (fun i t hi h => ?_) fun t h => ?_
  · simp [ePool]
    intro way hw0 hw1
    exact sign_step hp (by omega) h
  · simp
    exact hq t ⟨by omega, h.2⟩
theorem rd_signs2 : Rd 9 f_signs2 b_signs2 := by
  rintro XX ds Q ⟨_, _, _, rfl, rfl, l, m, hp, rfl, n, rfl, hn, hq⟩
  simp [b_signs2, ini]
  refine ⟨by omega, by omega, fun many h0 h1 => ?_⟩
  refine for_go ?_
  have key : ∀ N : Int, 0 ≤ N → N ≤ (if n = 40 then 200 else n : Nat) → dFor (fun _ _ Qi => Qi .fr (rgD 0 N.toNat)) (dgName 6)
      (dSeq (dAsg (dCall f_taken (dCons (dVar 0) (dCons (dC (.int 24)) dNil))) (dgName 7))
    (dSeq (dAsg (dOp rdIx (dVar 1) (dCB rdIntC (dCons (dOp rdEq (dOp rdMod (dVar 7) (dC (.int 4))) (dC (.int 3))) dNil))) (dgName 8))
    (dApp 3 (dOp rdIx (dLst (dCons (dOp rdIx (dVar 8) (dCall f_taken (dCons (dVar 0) (dCons (dCB rdLen (dCons (dVar 8) dNil)) dNil)))) (dCons (dCall f_taken (dCons (dVar 0) (dCons (dC (.int 1000)) dNil))) dNil))) (dCB rdIntC (dCons (dOp rdEq (dVar 7) (dC (.int 23))) dNil)))))) XX { nx := dRetV 3 XX { nx := fun x => Q D.non, rt := Q }, rt := Q }
      [.v false .row, .v false (ePool l m), .v false (.int n), .own true [], .v true (.int many), .v true (.int (11 * ((n : Int) + 1))), .e, .e, .e] := fun N hN0 hN1 => by
    refine for_rangeS 0 N.toNat (fun t : List Int => [.v false .row, .v false (ePool l m), .v false (.int n), .own true (t.map .int), .v true (.int many), .v true (.int (11 * ((n : Int) + 1))), .e, .e, .e]) (fun i t => t.length = i ∧ TextOk t) [] (fun Q h => h) rfl ⟨rfl, fun _ h => nomatch h⟩ (fun i t hi h => ?_) fun t h => ?_
    · simp [ePool]
      intro way hw0 hw1
      have : (if n = 40 then 200 else n : Nat) ≤ 200 := by split <;> omega
      exact sign_step hp (by omega) h
    · simp
      exact hq t ⟨by omega, h.2⟩
  have hr0 := Int.emod_nonneg many (b := (n : Int) + 1) (by omega)
  have hr1 := Int.emod_lt_of_pos many (b := (n : Int) + 1) (by omega)
  have hN : (n : Int) ≤ (if n = 40 then 200 else n : Nat) := by split <;> omega
  simp
  generalize many % ((n : Int) + 1) = r at hr0 hr1
  by_cases c : many < 11 * ((n : Int) + 1)
  · exact .inr ⟨c, by omega, by omega, key r hr0 (by omega)⟩
  · refine .inl ⟨by omega, ?_⟩
    by_cases c2 : (n : Int) = 40
    · refine .inl ⟨c2, by omega, by omega, key _ (by omega) ?_⟩
      have : n = 40 := by omega
      subst this
      simp
      omega
    · exact .inr ⟨c2, by omega, by omega, key r hr0 (by omega)⟩
/-! clusters -/
def begL (t : List Int) : List Nat := (List.range t.length).filter fun k => decide (k = 0) || decide (t.getD k 0 < 800)
def endL (t : List Int) : List Nat := (begL t).tail ++ [t.length]
def clL (t : List Int) : List (Nat × Nat) := (begL t).zip (endL t)
def f_clusters : DSp := dsp1 fun a Q => ∃ t : List Int, a = .lst (t.map .int) ∧ t.length ≤ 1000 ∧ Q (.lst ((clL t).map eP))
-- _law_clusters(_law_text): 0 _law_text 1 _law_begins 2 _law_ends 3 _law_k
@[reducible] def b_clusters : DTS :=
  (dSeq (dAsg (dLc (diRg1 (dCons (dCB rdLen (dCons (dVar 0) dNil)) dNil)) (dgName 3) (dOr (dB (dOp rdEq (dVar 3) (dC (.int 0)))) (dB (dOp rdLt (dOp rdIx (dVar 0) (dVar 3)) (dC (.int 800))))) (dVar 3) [3]) (dgName 1))
    (dSeq (dAsg (dOp rdAdd (dSl (dVar 1) (dPt (dC (.int 1))) dNo) (dLst (dCons (dCB rdLen (dCons (dVar 0) dNil)) dNil))) (dgName 2))
    (dRet (dLc (diRg1 (dCons (dCB rdLen (dCons (dVar 1) dNil)) dNil)) (dgName 3) dYes (dTup (dCons (dOp rdIx (dVar 1) (dVar 3)) (dCons (dOp rdIx (dVar 2) (dVar 3)) dNil))) [3]))))

theorem rd_clusters : Rd 4 f_clusters b_clusters := by
  rintro XX ds Q ⟨_, rfl, t, rfl, ht, hq⟩
  have hbl : (begL t).length ≤ t.length := by
    have := List.length_filter_le (fun k => decide (k = 0) || decide (t.getD k 0 < 800)) (List.range t.length)
    rw [List.length_range] at this
    exact this
  simp [b_clusters, ini]
  refine lc_fil (List.range t.length) (fun i => D.int (0 + ((i : Nat) : Int))) (k := .fr) .fr (fun k => decide (k = 0) || decide (t.getD k 0 < 800)) eN rfl (fun Qi h => by simp; exact ⟨by omega, h⟩) (by simp; omega) rfl (by decide) (fun i hi K K0 h1 h0 => ?_) ?_
  · have hi' : i < t.length := by simpa using hi
    have eg : t.getD i 0 = t[i] := getD_at hi'
    rw [eg] at h1 h0
    simp [wipeR, atI_map, atI_nat hi']
    by_cases hz : i = 0
    · exact .inr ⟨hz, h1 (by simp [hz]) _ kf⟩
    · refine .inl ⟨hz, ?_⟩
      by_cases hs : t[i] < 800
      · exact .inr ⟨hs, h1 (by simp [hs]) _ kf⟩
      · exact .inl ⟨by omega, h0 (by simp [hz, hs])⟩
  · have e : (List.filter (fun k => decide (k = 0) || decide (t.getD k 0 < 800)) (List.range t.length)) = begL t := rfl
    have e2 : (List.map eN (begL t)).tail ++ [D.int (t.length : Int)] = (endL t).map eN := by simp [endL, eN, List.map_tail]
    have e3 : D.flats (List.map eN (begL t)).tail = true := by
      have : (List.map eN (begL t)).tail = (begL t).tail.map eN := by cases begL t <;> rfl
      rw [this]
      exact fsN
    rw [e]
    simp [e2, e3]
    refine ⟨by omega, ?_⟩
    refine lc_map (List.range (begL t).length) (fun i => D.int (0 + ((i : Nat) : Int))) (k := .fr) .fr (fun i => eP ((clL t)[i]?.getD (0, 0))) rfl (fun Qi h => by simp; exact ⟨by omega, h⟩) (by simp; omega) rfl (by decide) (fun i hi K hk => ?_) ?_
    · have hi' : i < (begL t).length := by simpa using hi
      have hi2 : i < (endL t).length := by simp [endL]; omega
      have eg : (clL t)[i]?.getD (0, 0) = ((begL t)[i], (endL t)[i]) := by
        have : (clL t)[i]? = some ((begL t)[i], (endL t)[i]) := List.getElem?_zip_eq_some.mpr ⟨List.getElem?_eq_getElem hi', List.getElem?_eq_getElem hi2⟩
        rw [this]
        rfl
      have := hk .nw (.inr (by simp))
      rw [eg] at this
      simp [wipeR, atI_map, atI_nat hi', atI_nat hi2]
      exact this
    · have e5 : (List.range (begL t).length).map (fun i => eP ((clL t)[i]?.getD (0, 0))) = (clL t).map eP := by
        have hcl : (clL t).length = (begL t).length := by
          simp [clL, endL]
          omega
        apply List.ext_getElem (by simp [hcl])
        intro i h1 h2
        have h3 : i < (clL t).length := by simpa using h2
        simp [h3]
      rw [e5]
      simp
      exact hq
end HD

set_option Elab.async false
set_option linter.all false
set_option maxRecDepth 100000
set_option maxHeartbeats 1000000
/-! readings: names, faces -/
namespace HD
open PySem PySem.Spec PyProof.Rows L2
abbrev abc : Str := ("abcdefghijklmnopqrstuvwxyz" : Str)
/-- the letter at a place -/
def ltr (i : Int) : Nat := 97 + (i % 26).toNat
theorem abc_at : ∀ j : Nat, j < 26 → letters[j]? = some (97 + j) := by decide +kernel
theorem abc_len : letters.length = 26 := by decide +kernel
theorem ltr_at (i : Int) : atI abc.cps.toList (i % 26) = some (ltr i) := by
  have h0 := Int.emod_nonneg i (b := 26) (by omega)
  have h1 := Int.emod_lt_of_pos i (b := 26) (by omega)
  have e : i % 26 = (((i % 26).toNat : Nat) : Int) := by omega
  have h2 := abc_at (i % 26).toNat (by omega)
  show atI letters (i % 26) = _
  rw [e]
  unfold atI
  rw [ixN_nat (by rw [abc_len]; omega)]
  exact h2
theorem ltr_ok (i : Int) : letters.contains (ltr i) = true := by
  have h0 := Int.emod_nonneg i (b := 26) (by omega)
  have h1 := Int.emod_lt_of_pos i (b := 26) (by omega)
  have h2 := abc_at (i % 26).toNat (by omega)
  have := List.mem_of_getElem? h2
  simpa [ltr] using this
theorem ltr_inj {i j : Int} (h : ltr i = ltr j) : i % 26 = j % 26 := by
  have h0 := Int.emod_nonneg i (b := 26) (by omega)
  have h1 := Int.emod_nonneg j (b := 26) (by omega)
  unfold ltr at h
  omega
/-- texts by their signs -/
abbrev S (l : List Nat) : Str := ⟨l.toArray⟩
@[simp] theorem S_len {l : List Nat} : (S l).length = l.length := by simp [Str.length]
theorem S_app {a b : List Nat} : S a ++ S b = S (a ++ b) := by
  show (⟨a.toArray ++ b.toArray⟩ : Str) = ⟨(a ++ b).toArray⟩
  simp
theorem S_cut {l : List Nat} {k : Nat} : cutS (S l) none (some (k : Int)) = S (l.take k) := by
  unfold cutS
  rw [HT.sIx_nat, HT.sIx_none, List.drop_zero, Nat.sub_zero, S_len]
  congr 2
  by_cases h : k ≤ l.length
  · rw [Nat.min_eq_left h]
  · rw [Nat.min_eq_right (by omega), List.take_of_length_le (by simp), List.take_of_length_le (by omega)]
theorem S_inj {a b : List Nat} (h : S a = S b) : a = b := by
  simpa using h
def lettersL (l : List Nat) : Prop := ∀ c ∈ l, letters.contains c = true
theorem letter_lt {c : Nat} (h : letters.contains c = true) : c < 1114112 := by
  have : ∀ c ∈ letters, c < 1114112 := by decide +kernel
  exact this c (by simpa using h)
def NameOk (s : Str) : Prop := ∃ l, s = S l ∧ 1 ≤ l.length ∧ l.length ≤ 8 ∧ lettersL l
theorem NameOk.ok {s : Str} (h : NameOk s) : nameOk s = true ∧ PyData.strOk s = true ∧ s.length ≤ 8 := by
  obtain ⟨l, rfl, h1, h2, h3⟩ := h
  refine ⟨?_, ?_, by simpa using h2⟩
  · simp only [nameOk, Bool.and_eq_true, decide_eq_true_eq, List.all_eq_true, S_len]
    exact ⟨⟨h1, h2⟩, h3⟩
  · unfold PyData.strOk
    rw [← Array.all_toList, List.all_eq_true]
    exact fun c hc => by simpa using letter_lt (h3 c hc)
structure NamesOk (n : Nat) (ns : List Str) : Prop where
  len : ns.length = n
  nd : ns.Nodup
  ok : ∀ s ∈ ns, NameOk s
def f_names : DSp := dsp2 fun a b Q => a = .row ∧ ∃ n : Nat, b = .int n ∧ n ≤ 8 ∧ ∀ ns, NamesOk n ns → Q (.lst (ns.map .str))
-- _law_names(_law_row, _law_many): 0 _law_row 1 _law_many 2 _law_turn 3 _law_base 4 _law_cut 5 _law_k
@[reducible] def b_names : DTS :=
  (dSeq (dAsg (dCall f_taken (dCons (dVar 0) (dCons (dC (.int 26)) dNil))) (dgName 2))
    (dSeq (dAsg (dJoin (dC (.str ("" : Str))) (dLc (diRg1 (dCons (dC (.int 8)) dNil)) (dgName 5) dYes (dOp rdIx (dC (.str ("abcdefghijklmnopqrstuvwxyz" : Str))) (dOp rdMod (dOp rdAdd (dVar 2) (dOp rdMul (dC (.int 7)) (dVar 5))) (dC (.int 26)))) [5])) (dgName 3))
    (dSeq (dAsg (dCall f_taken (dCons (dVar 0) (dCons (dC (.int 8)) dNil))) (dgName 4))
    (dSeq (dIfS (dB (dOp rdEq (dCall f_taken (dCons (dVar 0) (dCons (dC (.int 3)) dNil))) (dC (.int 2)))) (dRet (dLc (diRg1 (dCons (dVar 1) dNil)) (dgName 5) dYes (dSl (dVar 3) dNo (dPt (dOp rdAdd (dVar 5) (dC (.int 1))))) [5])) dNext)
    (dRet (dLc (diRg1 (dCons (dVar 1) dNil)) (dgName 5) dYes (dOp rdAdd (dSl (dVar 3) dNo (dPt (dVar 4))) (dOp rdIx (dC (.str ("abcdefghijklmnopqrstuvwxyz" : Str))) (dOp rdMod (dOp rdAdd (dOp rdAdd (dVar 2) (dC (.int 3))) (dOp rdMul (dC (.int 5)) (dVar 5))) (dC (.int 26))))) [5]))))))

theorem nodup_map_range {α : Type} {f : Nat → α} {n : Nat} (h : ∀ i j, i < n → j < n → f i = f j → i = j) : ((List.range n).map f).Nodup := by
  rw [List.nodup_iff_pairwise_ne, List.pairwise_map]
  refine (List.pairwise_lt_range (n := n)).imp_of_mem fun {i j} hi hj hlt e => ?_
  have := h i j (by simpa using hi) (by simpa using hj) e
  omega
theorem S_tl (s : Str) : S s.cps.toList = s := by cases s; simp [S]
theorem joinL_sg (f : Nat → Nat) : TL.joinL [] ((List.range 8).map fun k => [f k]) = (List.range 8).map f := by
  have : (List.range 8) = [0, 1, 2, 3, 4, 5, 6, 7] := by decide
  rw [this]
  simp [TL.joinL]
theorem join8 (f : Nat → Nat) : Txt.join (Str.ofString "") ((List.range 8).map fun k => S [f k]) = S ((List.range 8).map f) := by
  have key : TL.tl (Txt.join (Str.ofString "") ((List.range 8).map fun k => S [f k])) = (List.range 8).map f := by
    rw [TL.join_eq, TL.tl_join]
    have e0 : TL.tl (Str.ofString "") = [] := rfl
    have e1 : ((List.range 8).map fun k => S [f k]).map TL.tl = (List.range 8).map fun k => [f k] := by
      rw [List.map_map]
      rfl
    rw [e0, e1, joinL_sg]
  exact (S_tl _).symm.trans (congrArg S key)
theorem S_cut1 {l : List Nat} {k : Nat} : cutS (S l) none (some ((k : Int) + 1)) = S (l.take (k + 1)) := by
  have e : (k : Int) + 1 = ((k + 1 : Nat) : Int) := by omega
  rw [e]
  exact S_cut
theorem rd_names : Rd 6 f_names b_names := by
  rintro XX ds Q ⟨_, _, rfl, rfl, n, rfl, hn, hq⟩
  simp [b_names, ini]
  intro turn ht0 ht1
  have al : abc.length ≤ 100000 := by decide +kernel
  have bl : lettersL ((List.range 8).map fun (k : Nat) => ltr (turn + 7 * (k : Int))) := fun c hc => by
    obtain ⟨k, _, rfl⟩ := List.mem_map.mp hc
    exact ltr_ok _
  have base : ∀ Q' : KQ, (∀ ys : List Str, (ys.map (·.length)).sum = 8 → ys.length = 8 → Txt.join (Str.ofString "") ys = S ((List.range 8).map fun (k : Nat) => ltr (turn + 7 * (k : Int))) → Q' .fr (.lst (ys.map .str))) → dLc (diRg1 (dCons (dC (.int 8)) dNil)) (dgName 5) dYes (dOp rdIx (dC (.str abc)) (dOp rdMod (dOp rdAdd (dVar 2) (dOp rdMul (dC (.int 7)) (dVar 5))) (dC (.int 26)))) [5] XX
      [Slot.v false .row, Slot.v false (.int n), Slot.v true (.int turn), .e, .e, .e] Q' := fun Q' h => by
    refine lc_map (List.range 8) (fun i => D.int (0 + ((i : Nat) : Int))) (k := .fr) .fr (fun (k : Nat) => D.str (S [ltr (turn + 7 * (k : Int))])) rfl (fun Qi h => by simp; exact h) (by simp) rfl (by decide) (fun i hi K hk => ?_) ?_
    · simp [wipeR]
      exact ⟨al, _, ltr_at _, hk .fr kf⟩
    · have := h ((List.range 8).map fun (k : Nat) => S [ltr (turn + 7 * (k : Int))]) (by
        rw [List.map_map]
        have e : ((fun x => Str.length x) ∘ fun (k : Nat) => S [ltr (turn + 7 * (k : Int))]) = fun _ => 1 := funext fun k => by simp
        rw [e]
        decide) (by simp) (join8 fun (k : Nat) => ltr (turn + 7 * (k : Int)))
      rw [List.map_map] at this
      exact this
  have bl8 : ((List.range 8).map fun (k : Nat) => ltr (turn + 7 * (k : Int))).length = 8 := by simp
  generalize ((List.range 8).map fun (k : Nat) => ltr (turn + 7 * (k : Int))) = bs at base bl bl8
  refine base _ fun ys h1 h2 h3 => ?_
  simp [h1, h2, h3]
  have e0 : (Str.ofString "").length = 0 := rfl
  rw [e0]
  refine ⟨by omega, fun cut hc0 hc1 w hw0 hw1 => ?_⟩
  obtain ⟨c, rfl⟩ : ∃ c : Nat, cut = (c : Int) := ⟨cut.toNat, by omega⟩
  have hbs : (S bs).length ≤ 100000 := by simp; omega
  by_cases hw : w = 2
  · refine .inr ⟨hw, ?_⟩
    refine lc_map (List.range n) (fun i => D.int (0 + ((i : Nat) : Int))) (k := .fr) .fr (fun (k : Nat) => D.str (S (bs.take (k + 1)))) rfl (fun Qi h => by simp; exact ⟨by omega, h⟩) (by simp; omega) rfl (by decide) (fun i hi K hk => ?_) ?_
    · simp [wipeR]
      refine ⟨by omega, ?_⟩
      rw [S_cut1]
      exact hk .fr kf
    · have := hq ((List.range n).map fun (k : Nat) => S (bs.take (k + 1))) ⟨by simp, nodup_map_range fun i j hi hj e => by
        have := congrArg List.length (S_inj e)
        simp at this
        omega, fun s hs => by
        obtain ⟨k, hk, rfl⟩ := List.mem_map.mp hs
        have hk' : k < n := by simpa using hk
        exact ⟨bs.take (k + 1), rfl, by simp; omega, by simp; omega, fun c hc => bl c (List.mem_of_mem_take hc)⟩⟩
      rw [List.map_map] at this
      simp
      exact this
  · refine .inl ⟨hw, ?_⟩
    refine lc_map (List.range n) (fun i => D.int (0 + ((i : Nat) : Int))) (k := .fr) .fr (fun (k : Nat) => D.str (S (bs.take c ++ [ltr (turn + 3 + 5 * (k : Int))]))) rfl (fun Qi h => by simp; exact ⟨by omega, h⟩) (by simp; omega) rfl (by decide) (fun i hi K hk => ?_) ?_
    · simp [wipeR]
      refine ⟨by omega, al, _, ltr_at _, ?_⟩
      have := S_cut (l := bs) (k := c)
      rw [this]
      have e2 : S (bs.take c) ++ (⟨#[ltr (turn + 3 + 5 * (i : Int))]⟩ : Str) = S (bs.take c ++ [ltr (turn + 3 + 5 * (i : Int))]) := S_app (b := [ltr (turn + 3 + 5 * (i : Int))])
      rw [e2]
      refine ⟨?_, hk .fr kf⟩
      simp [Str.length]
      omega
    · have := hq ((List.range n).map fun (k : Nat) => S (bs.take c ++ [ltr (turn + 3 + 5 * (k : Int))])) ⟨by simp, nodup_map_range fun i j hi hj e => by
        have := S_inj e
        have := List.append_cancel_left this
        have := ltr_inj (by simpa using this)
        omega, fun s hs => by
        obtain ⟨k, hk, rfl⟩ := List.mem_map.mp hs
        refine ⟨_, rfl, by simp, by simp; omega, fun x hx => ?_⟩
        rcases List.mem_append.mp hx with hx | hx
        · exact bl x (List.mem_of_mem_take hx)
        · rw [List.mem_singleton.mp hx]; exact ltr_ok _⟩
      rw [List.map_map] at this
      simp
      exact this
end HD

set_option Elab.async false
set_option linter.all false
set_option maxRecDepth 100000
set_option maxHeartbeats 1000000
/-! readings: faces drawn, a case made -/
namespace HD
open PySem PySem.Spec PyProof.Rows L2
structure FacesOk (fs : List Face) : Prop where
  len : fs.length ≤ 8
  nd : (fs.map (·.name)).Nodup
  nm : ∀ f ∈ fs, NameOk f.name
  rk : ∀ f ∈ fs, 0 ≤ f.rank ∧ f.rank ≤ 9
  sg : ∀ f ∈ fs, SignsOk f.signs
def f_Case : DSp := dsp1 fun a Q => ∃ fs : List Face, a = .lst (fs.map eF) ∧ FacesOk fs ∧ Q (.obj (fs.map eF))
-- Case.__init__(self, faces): 0 self 1 faces 2 number 3 name 4 rank 5 signs 6 good 7 face
@[reducible] def b_Case_init1 : DTS :=
  (dIfS (dB (dOp rdGt (dCB rdLen (dCons (dVar 1) dNil)) (dC (.int 8)))) dNever dNext)
@[reducible] def b_Case_init2 : DTS :=
  (dFor (diRg1 (dCons (dCB rdLen (dCons (dVar 1) dNil)) dNil)) (dgName 2) (dSeq (dAsg (dOp rdIx (dVar 1) (dVar 2)) (dgTup 3 (dgCons (dgName 3) (dgCons (dgName 4) (dgCons (dgName 5) dgNil)))))
    (dSeq (dAsg (dAndV (dCall f_is_name (dCons (dVar 3) dNil)) (dOp (rdIn true) (dVar 3) (dLc (diSq (dSl (dVar 1) dNo (dPt (dVar 2)))) (dgName 7) dYes (dOp rdIx (dVar 7) (dC (.int 0))) [7]))) (dgName 6))
    (dIfS (dOr (dNot (dB (dVar 6))) (dOr (dNot (dB (dChain rdLe rdLe (dC (.int 0)) (dVar 4) (dC (.int 9))))) (dNot (dB (dCall f_are_signs (dCons (dVar 5) dNil)))))) dNever dNext))))
@[reducible] def b_Case_init3 : DTE :=
  (dCB rdList (dCons (dVar 1) dNil))

theorem f_Case_len : ∀ XX ds Q, f_Case XX ds Q → ∃ d, ds = [d] := fun _ _ _ ⟨a, h, _⟩ => ⟨a, h⟩
@[simp] theorem inStr {l : List Str} {s : Str} : ((l.map D.str).any fun y => dEqS y (.str s)) = l.contains s := by
  induction l with
  | nil => rfl
  | cons a l ih =>
    simp only [List.map_cons, List.any_cons, ih, dq_ss, List.contains_cons]
    congr 1
    rw [Bool.eq_iff_iff]
    simp
    exact eq_comm
theorem rd_Case : ∀ XX ds Q, f_Case XX ds Q → dInit 8 b_Case_init1 b_Case_init2 b_Case_init3 XX ds Q := by
  rintro XX ds Q ⟨_, rfl, fs, rfl, hf, hq⟩
  refine ⟨_, rfl, fun x => ?_⟩
  have hl := hf.len
  simp [b_Case_init1, b_Case_init2, b_Case_init3]
  refine ⟨by omega, ?_⟩
  refine for_rangeS 0 fs.length (fun _ : Unit => [.is (.ref x), .v false (.lst (fs.map eF)), .e, .e, .e, .e, .e, .e]) (fun i _ => True) () (fun Q h => by simp; exact ⟨by omega, h⟩) rfl trivial (fun i _ hi _ => ?_) fun _ _ => ?_
  · have hm : fs[i] ∈ fs := List.getElem_mem hi
    obtain ⟨n1, n2, n3⟩ := (hf.nm _ hm).ok
    have r := hf.rk _ hm
    have sg := hf.sg _ hm
    simp [atI_map, atI_nat hi, eF, f_is_name, n1, n2]
    refine ⟨by omega, ?_⟩
    have hnot : fs[i].name ∉ (fs.take i).map (·.name) := fun hx => by
      obtain ⟨f, hf1, hf2⟩ := List.mem_map.mp hx
      obtain ⟨j, hj, e⟩ := List.mem_iff_getElem.mp hf1
      have hj' : j < i := by simp at hj; omega
      have e2 : (fs.map (·.name))[j]'(by simp; omega) = (fs.map (·.name))[i]'(by simpa using hi) := by
        simp at e ⊢
        rw [e, hf2]
      exact List.pairwise_iff_getElem.mp (List.nodup_iff_pairwise_ne.mp hf.nd) j i (by simp; omega) (by simpa using hi) hj' e2
    refine lc_map (fs.take i) eF (k := .fr) .fr (fun f => D.str f.name) rfl (fun Qi h => by
      simp [cutD_map, cutD_to]
      rw [← List.map_take]
      simp only [fsF, if_true]
      exact h) (by simp; omega) rfl (by decide) (fun f hm K hk => ?_) ?_
    · simp [wipeR, eF]
      exact hk _ kf
    · have e : (fs.take i).map (fun f => D.str f.name) = ((fs.take i).map (·.name)).map D.str := by rw [List.map_map]; rfl
      rw [e]
      have hc : ((fs.take i).map (·.name)).contains fs[i].name = false := by simpa using hnot
      simp only [s_inL, sc_str, inStr, hc]
      simp [r.1, r.2, f_are_signs, sg]
      intro y hy
      rw [← List.map_take] at hy
      obtain ⟨f, _, rfl⟩ := List.mem_map.mp hy
      rfl
  · simp
    exact hq
/-! faces, drawn -/
def f_faces2 : DSp := dsp3 fun a b c Q => a = .row ∧ ∃ l m, PoolOk l m ∧ b = ePool l m ∧ ∃ n : Nat, c = .int n ∧ 1 ≤ n ∧ n ≤ 8 ∧ ∀ fs, FacesOk fs → fs.length ≤ n → (∀ f ∈ fs, ∀ s ∈ f.signs, s ∈ l ∨ s ∈ m) → Q (.lst (fs.map eF))
-- _law_faces(_law_row, _law_pool_here, _law_most): 0 _law_row 1 _law_pool_here 2 _law_most 3 _law_names_here 4 _law_found 5 _law_name 6 _law_many 7 _law_letters 8 _law_marks 9 _law_sign
@[reducible] def b_faces2 : DTS :=
  (dSeq (dAsg (dCall f_names (dCons (dVar 0) (dCons (dOp rdIx (dLst (dCons (dCall f_taken (dCons (dVar 0) (dCons (dOp rdAdd (dVar 2) (dC (.int 1))) dNil))) (dCons (dOp rdAdd (dC (.int 1)) (dCall f_taken (dCons (dVar 0) (dCons (dCB rdMin (dCons (dVar 2) (dCons (dC (.int 4)) dNil))) dNil)))) dNil))) (dCall f_taken (dCons (dVar 0) (dCons (dC (.int 2)) dNil)))) dNil))) (dgName 3))
    (dSeq (dAsgO 4 (dLst dNil))
    (dSeq (dFor (diSq (dVar 3)) (dgName 5) (dSeq (dAsg (dOp rdAdd (dC (.int 2)) (dCall f_taken (dCons (dVar 0) (dCons (dC (.int 3)) dNil)))) (dgName 6))
    (dSeq (dAsg (dLc (diSq (dOp rdIx (dVar 1) (dC (.int 0)))) (dgName 9) (dB (dOp rdGt (dCall f_taken (dCons (dVar 0) (dCons (dVar 6) dNil))) (dC (.int 0)))) (dVar 9) [9]) (dgName 7))
    (dSeq (dAsg (dLc (diSq (dOp rdIx (dVar 1) (dC (.int 1)))) (dgName 9) (dB (dOp rdGt (dCall f_taken (dCons (dVar 0) (dCons (dC (.int 3)) dNil))) (dC (.int 0)))) (dVar 9) [9]) (dgName 8))
    (dApp 4 (dTup (dCons (dVar 5) (dCons (dOp rdIx (dLst (dCons (dCall f_taken (dCons (dVar 0) (dCons (dC (.int 3)) dNil))) (dCons (dCall f_taken (dCons (dVar 0) (dCons (dC (.int 10)) dNil))) dNil))) (dCall f_taken (dCons (dVar 0) (dCons (dC (.int 2)) dNil)))) (dCons (dCB rdTuple (dCons (dOp rdAdd (dVar 7) (dVar 8)) dNil)) dNil)))))))))
    (dRetV 4))))

theorem lc_sub {XX : Exn → Prop} {ρ : Rho} {it : DTI} {g : DTG} {Q : KQ} {te : DTE} {tt : DTT} {vs : List Nat} (l : List Int) {k : Kd} {n : Bool} (hk : kn k = some n) (hit : ∀ Qi : Kd → List D → Prop, Qi k (l.map .int) → it XX ρ Qi) (hl : l.length ≤ 100000) (hno : noOwn ρ vs = true)
    (hs : ∀ a ∈ l, ∀ (K : KQ) (K0 : Prop), (∀ k', K k' (.int a)) → K0 → g n (.int a) (wipeR ρ vs) fun ρ2 => tt XX ρ2 fun b => if b = true then te XX ρ2 K else K0)
    (hd : ∀ ys : List Int, ys.Sublist l → Q .fr (.lst (ys.map .int))) : dLc it g tt te vs XX ρ Q := by
  refine lc_inv l .int .fr (fun p acc => ∃ ys : List Int, acc = ys.map .int ∧ ys.Sublist p) hk hit hl hno (by decide) ⟨[], rfl, .slnil⟩ (fun p a q acc e ⟨ys, h1, h2⟩ => ?_) fun acc ⟨ys, h1, h2⟩ => by rw [h1]; exact hd ys h2
  subst h1
  exact hs a (by rw [e]; simp) _ _ (fun k' => ⟨kf, ys ++ [a], by simp, h2.append (List.Sublist.refl [a])⟩) ⟨ys, rfl, h2.trans (List.sublist_append_left p [a])⟩
theorem rd_faces2 : Rd 10 f_faces2 b_faces2 := by
  rintro XX ds Q ⟨_, _, _, rfl, rfl, l, m, hp, rfl, n, rfl, hn0, hn, hq⟩
  simp [b_faces2, ini]
  refine ⟨by omega, fun i h0 h1 => ⟨by split <;> omega, by split <;> omega, fun j hj0 hj1 w hw0 hw1 => ?_⟩⟩
  have hj2 : j < 4 ∧ j < n := by split at hj1 <;> omega
  obtain ⟨c, hc, hcn⟩ : ∃ c : Nat, atI [D.int i, D.int (1 + j)] w = some (.int c) ∧ c ≤ n := by
    have hw : w = 0 ∨ w = 1 := by omega
    rcases hw with rfl | rfl
    · exact ⟨i.toNat, by simp; omega, by omega⟩
    · exact ⟨(1 + j).toNat, by simp; omega, by omega⟩
  refine ⟨_, hc, ?_⟩
  simp [f_names]
  refine ⟨c, rfl, by omega, fun ns hns => ?_⟩
  refine for_listS ns .str (k := .nw) (fun fs : List Face => [.v false .row, .v false (ePool l m), .v false (.int n), .v true (.lst (ns.map .str)), .own true (fs.map eF), .e, .e, .e, .e, .e])
    (fun p fs => fs.map (·.name) = p ∧ (∀ f ∈ fs, 0 ≤ f.rank ∧ f.rank ≤ 9) ∧ (∀ f ∈ fs, SignsOk f.signs) ∧ ∀ f ∈ fs, ∀ s ∈ f.signs, s ∈ l ∨ s ∈ m) [] rfl (fun Qi h => by simpa using h) rfl ⟨rfl, by simp, by simp, by simp⟩ (fun p nm r fs e h => ?_) fun fs h => ?_
  · have hfl : fs.length < 100000 := by
      have h2 := congrArg List.length h.1
      have h3 := congrArg List.length e
      rw [hns.len] at h3
      simp at h2 h3
      omega
    simp [ePool]
    intro many hm0 hm1
    refine lc_sub l (k := .sf) rfl (fun Qi h => by simpa using h) (by have := hp.ll; omega) rfl (fun a ha K K0 hK h0 => ?_) fun ls hls => ?_
    · simp [wipeR]
      refine ⟨by omega, by omega, fun z hz0 hz1 => ?_⟩
      by_cases c0 : 0 < z
      · exact .inr ⟨c0, hK _⟩
      · exact .inl ⟨by omega, h0⟩
    · simp
      refine lc_sub m (k := .sf) rfl (fun Qi h => by simpa using h) (by have := hp.ml; omega) rfl (fun a ha K K0 hK h0 => ?_) fun ms hms => ?_
      · simp [wipeR]
        intro z hz0 hz1
        by_cases c0 : 0 < z
        · exact .inr ⟨c0, hK _⟩
        · exact .inl ⟨by omega, h0⟩
      · have hll := hls.length_le
        have hml := hms.length_le
        have b1 := hp.ll
        have b2 := hp.ml
        have sgn : SignsOk (ls ++ ms) := ⟨by simp; omega, fun s hs => by
          rcases List.mem_append.mp hs with hs | hs
          · have := hp.lb s (hls.subset hs); omega
          · have := hp.mb s (hms.subset hs); omega, by
          rw [List.pairwise_append]
          refine ⟨hp.ls.sublist hls, hp.ms.sublist hms, fun a ha b hb => ?_⟩
          have h1 := hp.lb a (hls.subset ha)
          have h2 := hp.mb b (hms.subset hb)
          omega⟩
        simp
        refine ⟨hfl, fun x hx0 hx1 y hy0 hy1 v hv0 hv1 => ?_⟩
        obtain ⟨rk, hrk, hrb⟩ : ∃ rk : Int, atI [D.int x, D.int y] v = some (.int rk) ∧ 0 ≤ rk ∧ rk ≤ 9 := by
          have hw : v = 0 ∨ v = 1 := by omega
          rcases hw with rfl | rfl
          · exact ⟨x, by simp, by omega⟩
          · exact ⟨y, by simp, by omega⟩
        refine ⟨_, hrk, by omega, fs ++ [⟨nm, rk, ls ++ ms⟩], by simp [eF, tints], by simp [h.1], fun f hf => ?_, fun f hf => ?_, fun f hf => ?_⟩
        · rcases List.mem_append.mp hf with hf | hf
          · exact h.2.1 f hf
          · rw [List.mem_singleton.mp hf]; exact hrb
        · rcases List.mem_append.mp hf with hf | hf
          · exact h.2.2.1 f hf
          · rw [List.mem_singleton.mp hf]; exact sgn
        · rcases List.mem_append.mp hf with hf | hf
          · exact h.2.2.2 f hf
          · rw [List.mem_singleton.mp hf]
            intro s hs
            rcases List.mem_append.mp hs with hs | hs
            · exact .inl (hls.subset hs)
            · exact .inr (hms.subset hs)
  · simp
    refine hq fs ⟨?_, by rw [h.1]; exact hns.nd, fun f hf => hns.ok _ (by rw [← h.1]; exact List.mem_map.mpr ⟨f, hf, rfl⟩), h.2.1, h.2.2.1⟩ ?_ h.2.2.2
    · have h2 := congrArg List.length h.1
      rw [hns.len] at h2
      simp at h2
      omega
    · have h2 := congrArg List.length h.1
      rw [hns.len] at h2
      simp at h2
      omega
end HD

set_option Elab.async false
set_option linter.all false
set_option maxRecDepth 100000
set_option maxHeartbeats 1000000
namespace HD
open PySem PySem.Spec PyProof.Rows L2
section
variable {P : Program} {w : World} {K : PySem.W.Frag} {mg : Str → Option Value} {base : Heap} {G : Gp} {f : Addr} {fd : FuncData} {ps : List Str} {CX : CXT} {k : Nat}
theorem fnFalse : FnOk P w K mg base CX k f fd ps (spD G fun _ _ _ => False) :=
  ⟨fun vs H Q E ⟨_, _, _, _, _, _, z, _⟩ => z.elim, fun A outer s H args us vs Q E _ _ _ _ ⟨_, _, _, _, _, _, z, _⟩ => z.elim⟩
theorem law_sp {H : Hp} {a : Addr} {ns : List Int} (hO : Only H) (hS : SqL K H a (ns.map V.int)) {E : XK} : spLaw K [.ref a] H (fun v _ => v = .bl true) E := by
  refine ⟨a, ns, rfl, ?_, fun _ => rfl⟩
  rcases hS with (h | h) | h
  · rcases hO a with z | ⟨o, xs, z⟩
    · rw [z] at h; cases h
    · rw [z] at h; cases h
  · exact .inl h
  · exact .inr h
end
/-- how a reading is told of the law -/
abbrev RdL (n : Nat) (t : DTS) : Prop := t (fun _ => False) { nx := fun _ => False, rt := fun d => d = .bl true } (.e :: .v false .row :: List.replicate n .e)

/-- the law's compare, data not deep -/
abbrev f_alike : DSp := f_alk 6
/-! calls, told -/
section
variable {XX : Exn → Prop} {Q : D → Prop} {l m : List Int} {fs : List Face} {t : List Int}
theorem call_pool (h : ∀ l m, PoolOk l m → Q (ePool l m)) : f_pool XX [.row] Q := ⟨_, rfl, rfl, h⟩
theorem call_faces2 {c : Int} (n : Nat) (hp : PoolOk l m) (hc : c = n) (h1 : 1 ≤ n) (h8 : n ≤ 8) (h : ∀ fs, FacesOk fs → fs.length ≤ n → Q (.lst (fs.map eF))) : f_faces2 XX [.row, ePool l m, .int c] Q := ⟨_, _, _, rfl, rfl, l, m, hp, rfl, n, by rw [hc], h1, h8, fun fs a b _ => h fs a b⟩
theorem call_faces2P {c : Int} (n : Nat) (hp : PoolOk l m) (hc : c = n) (h1 : 1 ≤ n) (h8 : n ≤ 8) (h : ∀ fs, FacesOk fs → fs.length ≤ n → (∀ f ∈ fs, ∀ s ∈ f.signs, s ∈ l ∨ s ∈ m) → Q (.lst (fs.map eF))) : f_faces2 XX [.row, ePool l m, .int c] Q := ⟨_, _, _, rfl, rfl, l, m, hp, rfl, n, by rw [hc], h1, h8, h⟩
theorem call_signs2 {c : Int} (n : Nat) (hp : PoolOk l m) (hc : c = n) (h8 : n ≤ 200) (h : ∀ t, SignsR (if n = 40 then 200 else n) t → Q (.lst (t.map .int))) : f_signs2 XX [.row, ePool l m, .int c] Q := ⟨_, _, _, rfl, rfl, l, m, hp, rfl, n, by rw [hc], h8, h⟩
theorem call_signs {c : Int} (n : Nat) (hp : PoolOk l m) (hc : c = n) (h8 : n ≤ 200) (h : ∀ t, SignsR n t → Q (.lst (t.map .int))) : f_signs XX [.row, ePool l m, .int c] Q := ⟨_, _, _, rfl, rfl, l, m, hp, rfl, n, by rw [hc], h8, h⟩
theorem call_Case (hf : FacesOk fs) (h : Q (.obj (fs.map eF))) : f_Case XX [.lst (fs.map eF)] Q := ⟨_, rfl, fs, rfl, hf, h⟩
theorem call_shown (hf : FacesOk fs) (hl : t.length ≤ 1000) (ht : TextOk t) (h : Q (eR (shownL fs t))) : f_shown XX [.obj (fs.map eF), .lst (t.map .int)] Q := ⟨_, _, rfl, fs, t, rfl, rfl, by have := hf.len; omega, hl, ht, h⟩
theorem call_clusters (hl : t.length ≤ 1000) (h : Q (.lst ((clL t).map eP))) : f_clusters XX [.lst (t.map .int)] Q := ⟨_, rfl, t, rfl, hl, h⟩
theorem call_runs (hf : FacesOk fs) (hl : t.length ≤ 1000) (ht : TextOk t) (h : Q (.lst ((runsL t (shownL fs t)).map eRun))) : f_runs XX [.obj (fs.map eF), .lst (t.map .int)] Q := ⟨_, _, rfl, fs, t, rfl, rfl, by have := hf.len; omega, hl, ht, h⟩
theorem call_changes {row : List (Option Nat)} (hl : row.length ≤ 1000) (h : Q (eN (changesL row))) : f_changes XX [eR row] Q := ⟨_, rfl, row, rfl, hl, h⟩
theorem call_alike {d : D} (hd : alkD 6 d = true) (h : Q (.bl true)) : f_alk 6 XX [d, d] Q := ⟨_, _, rfl, rfl, hd, h⟩
end
end HD

set_option Elab.async false
set_option linter.all false
set_option maxRecDepth 100000
namespace HD
open PySem PySem.Spec PyProof.Rows L2
/-- the block in a block -/
theorem blk2n {M N : List Str} {S sc scope1 scope : Scope} {own : List (Str × Nat)} {cl : List (Str × Addr)} {C : Addr} {env : Env} (hM : M = N) (hS : S = (compEnvC scope1 cl C env).scope) (he : env.scope = sc)
    (h : blkC N (relS scope1 sc) scope own = true) : BlkOk M S scope own := by
  subst hM hS he
  exact blkOk_by h
end HD

set_option Elab.async false
set_option linter.all false
set_option maxRecDepth 100000
set_option maxHeartbeats 1000000
/-! clusters by their bounds; runs by their starts -/
namespace HD
open PySem PySem.Spec PyProof.Rows L2
theorem begL_snoc (t : List Int) (s : Int) : begL (t ++ [s]) = begL t ++ (if t = [] ∨ s < 800 then [t.length] else []) := by
  unfold begL
  rw [List.length_append, List.length_singleton, List.range_succ, List.filter_append]
  congr 1
  · apply List.filter_congr
    intro k hk
    have hk' : k < t.length := by simpa using hk
    rw [List.getD_eq_getElem?_getD, List.getElem?_append_left hk', ← List.getD_eq_getElem?_getD]
  · have e : (t ++ [s]).getD t.length 0 = s := by simp [List.getD_eq_getElem?_getD]
    rw [List.filter_cons, e]
    by_cases h0 : t = []
    · simp [h0]
    · have : t.length ≠ 0 := fun z => h0 (List.length_eq_zero_iff.mp z)
      by_cases h1 : s < 800 <;> simp [h0, h1]
theorem bnd_snoc : ∀ (cs : List (List Int)) (c : List Int) (i : Nat), bnd i (cs ++ [c]) = bnd i cs ++ [(i + (cs.map List.length).sum, i + (cs.map List.length).sum + c.length)]
  | [], c, i => by simp [bnd]
  | d :: cs, c, i => by
    simp only [List.cons_append, bnd, bnd_snoc cs c, List.map_cons, List.sum_cons, Nat.add_assoc]
theorem parts_nil {t : List Int} : partsL t = [] ↔ t = [] := by
  refine snoc_ind (P := fun t => partsL t = [] ↔ t = []) (by simp [partsL]) (fun t s ih => ?_) t
  rw [partsL_snoc]
  unfold pstep
  split <;> simp
theorem parts_sum (t : List Int) : ((partsL t).map List.length).sum = t.length := by
  refine snoc_ind (P := fun t => ((partsL t).map List.length).sum = t.length) (by simp [partsL]) (fun t s ih => ?_) t
  rw [partsL_snoc]
  unfold pstep
  split
  · rename_i h
    have hg := List.getLast?_eq_some_getLast h.2
    have e := List.dropLast_concat_getLast h.2
    rw [← e] at ih
    simp [hg] at ih ⊢
    omega
  · simp [ih]
theorem clL_bounds (t : List Int) : clL t = boundsL t := by
  refine snoc_ind (P := fun t => clL t = boundsL t) (by simp [clL, begL, boundsL, partsL, bnd]) (fun t s ih => ?_) t
  unfold boundsL
  rw [partsL_snoc]
  by_cases hn : t = [] ∨ s < 800
  · have hp : ¬ (800 ≤ s ∧ partsL t ≠ []) := by
      rcases hn with h | h
      · rw [parts_nil.mpr h]; simp
      · omega
    rw [pstep, if_neg hp, bnd_snoc, parts_sum, ← (show boundsL t = bnd 0 (partsL t) from rfl), ← ih]
    unfold clL endL
    rw [begL_snoc, if_pos hn]
    cases h : begL t with
    | nil =>
      have : t = [] := by
        cases t with
        | nil => rfl
        | cons a t =>
          have : 0 ∈ begL (a :: t) := by unfold begL; simp
          rw [h] at this
          cases this
      subst this
      simp
    | cons b bs =>
      simp only [List.cons_append, List.tail_cons, List.length_append, List.length_singleton, Nat.zero_add]
      have e : bs ++ [t.length] ++ [t.length + 1] = (bs ++ [t.length]) ++ [t.length + 1] := rfl
      rw [← List.cons_append, List.zip_append (by simp)]
      rfl
  · have h800 : 800 ≤ s := by omega
    have hne : partsL t ≠ [] := fun z => hn (.inl (parts_nil.mp z))
    rw [pstep, if_pos ⟨h800, hne⟩]
    have hg := List.getLast?_eq_some_getLast hne
    have e := List.dropLast_concat_getLast hne
    have hs := parts_sum t
    unfold boundsL at ih
    rw [← e, bnd_snoc] at ih
    rw [← e] at hs
    rw [hg, Option.getD_some, bnd_snoc]
    unfold clL endL at ih ⊢
    rw [begL_snoc, if_neg hn, List.append_nil]
    have hbn : begL t ≠ [] := fun z => by rw [z] at ih; simp at ih
    have hz : ∀ x : Nat, (begL t).zip ((begL t).tail ++ [x]) = ((begL t).dropLast.zip (begL t).tail) ++ [((begL t).getLast hbn, x)] := fun x => by
      have e2 := List.dropLast_concat_getLast hbn
      conv => lhs; arg 1; rw [← e2]
      rw [List.zip_append (by simp)]
      rfl
    rw [hz] at ih ⊢
    obtain ⟨i1, i2⟩ := List.append_inj' ih rfl
    simp at i2 hs
    rw [i1]
    simp
    omega

theorem bnd_len : ∀ (cs : List (List Int)) (i : Nat), (bnd i cs).length = cs.length
  | [], _ => rfl
  | c :: cs, i => by simp [bnd, bnd_len cs]
theorem clL_len (t : List Int) : (clL t).length = (partsL t).length := by rw [clL_bounds]; exact bnd_len _ _
/-! runs -/
def rw' (row : List (Option Nat)) (k : Nat) : Option Nat := row.getD k none
def bd (cl : List (Nat × Nat)) (k : Nat) : Nat × Nat := cl.getD k (0, 0)
def isSt (row : List (Option Nat)) (k : Nat) : Bool := decide (k = 0) || decide (rw' row k ≠ rw' row (k - 1))
def allEq (row : List (Option Nat)) (k j : Nat) : Bool := decide ((row.drop k).take (j + 1 - k) = List.replicate (j + 1 - k) (rw' row k))
def eE (row : List (Option Nat)) (i k : Nat) : Nat := k + (((List.range (i - k)).filter fun d => allEq row k (k + d)).getLast?.getD 0)
def dueP (cl : List (Nat × Nat)) (row : List (Option Nat)) (i : Nat) : List Run := ((List.range i).filter (isSt row)).map fun k => ((bd cl k).1, (bd cl (eE row i k)).2, rw' row k)
theorem rw_at {row : List (Option Nat)} {k : Nat} (h : k < row.length) : row[k]? = some (rw' row k) := by
  unfold rw'
  rw [List.getD_eq_getElem?_getD, List.getElem?_eq_getElem h]
  rfl
theorem allEq_iff {row : List (Option Nat)} {k j : Nat} (hj : j < row.length) (hk : k ≤ j) : allEq row k j = true ↔ ∀ m, k ≤ m → m ≤ j → rw' row m = rw' row k := by
  unfold allEq
  rw [decide_eq_true_eq]
  constructor
  · intro h m h1 h2
    have e := congrArg (fun l : List (Option Nat) => l[m - k]?) h
    simp only [List.getElem?_take, List.getElem?_drop, List.getElem?_replicate] at e
    rw [if_pos (by omega), if_pos (by omega), show k + (m - k) = m by omega, rw_at (by omega)] at e
    exact Option.some.inj e
  · intro h
    apply List.ext_getElem?
    intro m
    simp only [List.getElem?_take, List.getElem?_drop, List.getElem?_replicate]
    by_cases hm : m < j + 1 - k
    · rw [if_pos hm, if_pos hm, rw_at (by omega), h (k + m) (by omega) (by omega)]
    · rw [if_neg hm, if_neg hm]
theorem eE_succ {row : List (Option Nat)} {i k : Nat} (hk : k ≤ i) : eE row (i + 1) k = if allEq row k i = true then i else eE row i k := by
  unfold eE
  rw [show i + 1 - k = (i - k) + 1 by omega, List.range_succ, List.filter_append, List.filter_cons]
  rw [show k + (i - k) = i by omega]
  by_cases h : allEq row k i = true
  · rw [if_pos h, if_pos h]
    simp
    omega
  · rw [if_neg h, if_neg h]
    simp
/-- the starts before i: the last of them, and what stands between -/
theorem starts_last {row : List (Option Nat)} : ∀ {i : Nat}, 0 < i → ∃ ss k, (List.range i).filter (isSt row) = ss ++ [k] ∧ k < i ∧ isSt row k = true ∧ (∀ x ∈ ss, x < k) ∧ ∀ m, k < m → m < i → isSt row m = false
  | 0, h => absurd h (by omega)
  | i + 1, _ => by
    rw [List.range_succ, List.filter_append, List.filter_cons]
    by_cases h : isSt row i = true
    · rw [if_pos h]
      exact ⟨_, i, rfl, by omega, h, fun x hx => by have := (List.mem_filter.mp hx).1; simpa using this, fun m h1 h2 => by omega⟩
    · rw [if_neg h, List.filter_nil, List.append_nil]
      have h0 : 0 < i := by
        rcases Nat.eq_zero_or_pos i with e | e
        · subst e; exact absurd (by simp [isSt]) h
        · exact e
      obtain ⟨ss, k, h1, h2, h3, h4, h5⟩ := starts_last (row := row) h0
      refine ⟨ss, k, h1, by omega, h3, h4, fun m h6 h7 => ?_⟩
      by_cases e : m = i
      · rw [e]; simpa using h
      · exact h5 m h6 (by omega)
theorem run_eq {row : List (Option Nat)} {k : Nat} : ∀ j, k ≤ j → (∀ m, k < m → m ≤ j → isSt row m = false) → ∀ m, k ≤ m → m ≤ j → rw' row m = rw' row k := by
  intro j hj h m
  induction m with
  | zero => intro h1 h2; have : k = 0 := by omega
            rw [this]
  | succ m ih =>
    intro h1 h2
    by_cases e : k = m + 1
    · rw [e]
    · have h3 := h (m + 1) (by omega) h2
      simp [isSt] at h3
      rw [h3]
      exact ih (by omega) (by omega)
theorem due_step {cl : List (Nat × Nat)} {row : List (Option Nat)} {i : Nat} (hi : i < row.length) : rstep (dueP cl row i) (bd cl i, rw' row i) = dueP cl row (i + 1) := by
  have same : ∀ k, k < i → (∃ m, k < m ∧ m ≤ i ∧ isSt row m = true) → eE row (i + 1) k = eE row i k := fun k hk ⟨m, h1, h2, h3⟩ => by
    rw [eE_succ (by omega), if_neg]
    intro h
    rw [allEq_iff hi (by omega)] at h
    simp [isSt] at h3
    rcases h3 with h3 | h3
    · omega
    · exact h3 ((h m (by omega) h2).trans (h (m - 1) (by omega) (by omega)).symm)
  by_cases hs : isSt row i = true
  · have e1 : dueP cl row (i + 1) = dueP cl row i ++ [((bd cl i).1, (bd cl i).2, rw' row i)] := by
      unfold dueP
      rw [List.range_succ, List.filter_append, List.map_append]
      congr 1
      · apply List.map_congr_left
        intro k hk
        have hk' : k < i := by simpa using (List.mem_filter.mp hk).1
        rw [same k hk' ⟨i, hk', Nat.le_refl _, hs⟩]
      · rw [List.filter_cons, if_pos hs]
        simp only [List.filter_nil, List.map_cons, List.map_nil]
        rw [eE_succ (Nat.le_refl _), if_pos ((allEq_iff hi (Nat.le_refl _)).mpr fun m h1 h2 => by rw [show m = i by omega])]
    rw [e1]
    rcases Nat.eq_zero_or_pos i with h0 | h0
    · subst h0
      simp [dueP, rstep]
    · obtain ⟨ss, k, h1, h2, h3, h4, h5⟩ := starts_last (row := row) h0
      have ek : rw' row (i - 1) = rw' row k := run_eq (i - 1) (by omega) (fun m a b => h5 m a (by omega)) (i - 1) (by omega) (Nat.le_refl _)
      have hg : (dueP cl row i).getLast? = some ((bd cl k).1, (bd cl (eE row i k)).2, rw' row k) := by
        unfold dueP
        rw [h1]
        simp
      unfold rstep
      rw [hg]
      simp only
      rw [if_neg]
      intro z
      simp [isSt] at hs
      rcases hs with hs | hs
      · omega
      · exact hs (z.symm.trans ek.symm)
  · have h0 : 0 < i := by
      rcases Nat.eq_zero_or_pos i with e | e
      · subst e; exact absurd (by simp [isSt]) hs
      · exact e
    obtain ⟨ss, k, h1, h2, h3, h4, h5⟩ := starts_last (row := row) h0
    have hall : allEq row k i = true := (allEq_iff hi (by omega)).mpr (run_eq i (by omega) fun m a b => by
      by_cases e : m = i
      · rw [e]; simpa using hs
      · exact h5 m a (by omega))
    have hki : rw' row i = rw' row k := (allEq_iff hi (by omega)).mp hall i (by omega) (Nat.le_refl _)
    have e0 : dueP cl row i = (ss.map fun k => ((bd cl k).1, (bd cl (eE row i k)).2, rw' row k)) ++ [((bd cl k).1, (bd cl (eE row i k)).2, rw' row k)] := by
      unfold dueP
      rw [h1]
      simp
    have e1 : dueP cl row (i + 1) = (ss.map fun k => ((bd cl k).1, (bd cl (eE row i k)).2, rw' row k)) ++ [((bd cl k).1, (bd cl i).2, rw' row k)] := by
      unfold dueP
      rw [List.range_succ, List.filter_append, List.filter_cons, if_neg hs, List.filter_nil, List.append_nil, h1, List.map_append]
      congr 1
      · apply List.map_congr_left
        intro x hx
        rw [same x (by have := h4 x hx; omega) ⟨k, h4 x hx, by omega, h3⟩]
      · simp only [List.map_cons, List.map_nil]
        rw [eE_succ (by omega), if_pos hall]
    rw [e0, e1]
    unfold rstep
    simp [hki]
theorem runs_due {t : List Int} {row : List (Option Nat)} (h : row.length = (clL t).length) : runsL t row = dueP (clL t) row (clL t).length := by
  have key : ∀ i, i ≤ (clL t).length → (((boundsL t).zip row).take i).foldl rstep [] = dueP (clL t) row i := by
    intro i
    induction i with
    | zero => intro _; simp [dueP]
    | succ i ih =>
      intro hi
      have hlen : ((boundsL t).zip row).length = (clL t).length := by rw [← clL_bounds, List.length_zip]; omega
      have hg : ((boundsL t).zip row)[i]? = some (bd (clL t) i, rw' row i) := by
        rw [List.getElem?_zip_eq_some, ← clL_bounds]
        refine ⟨?_, rw_at (by omega)⟩
        unfold bd
        rw [List.getD_eq_getElem?_getD, List.getElem?_eq_getElem (by omega)]
        rfl
      rw [List.take_add_one, hg, List.foldl_append, ih (by omega)]
      exact due_step (by omega)
  have := key (clL t).length (Nat.le_refl _)
  rw [List.take_of_length_le (by rw [← clL_bounds, List.length_zip]; omega)] at this
  exact this
/-- their number -/
theorem starts_number (row : List (Option Nat)) : ((List.range row.length).filter (isSt row)).length = (if row = [] then 0 else 1) + changesL row := by
  cases row with
  | nil => rfl
  | cons a r =>
    unfold changesL
    rw [List.length_cons, List.range_succ_eq_map, List.filter_cons, if_pos (by simp [isSt]), List.length_cons, List.filter_map, List.length_map]
    rw [if_neg (by simp), show r.length + 1 - 1 = r.length by omega, Nat.add_comm]
    congr 2
    apply List.filter_congr
    intro k hk
    have hk' : k < r.length := by simpa using hk
    have h1 : (a :: r)[k]? = some (rw' (a :: r) k) := rw_at (by simp; omega)
    have h2 : (a :: r)[k + 1]? = some (rw' (a :: r) (k + 1)) := rw_at (by simp; omega)
    simp only [isSt, chg, Function.comp_def, h1, h2]
    rw [Bool.eq_iff_iff]
    simp
    constructor
    · exact fun h z => h z.symm
    · exact fun h z => h z.symm

def dueF (cl : List (Nat × Nat)) (row : List (Option Nat)) (n i : Nat) : List Run := ((List.range i).filter (isSt row)).map fun k => ((bd cl k).1, (bd cl (eE row n k)).2, rw' row k)
theorem dueF_step (cl : List (Nat × Nat)) (row : List (Option Nat)) (n i : Nat) : dueF cl row n (i + 1) = dueF cl row n i ++ (if isSt row i = true then [((bd cl i).1, (bd cl (eE row n i)).2, rw' row i)] else []) := by
  unfold dueF
  rw [List.range_succ, List.filter_append, List.map_append, List.filter_cons]
  split <;> simp
theorem dueF_len (cl : List (Nat × Nat)) (row : List (Option Nat)) (n i : Nat) : (dueF cl row n i).length ≤ i := by
  unfold dueF
  rw [List.length_map]
  have := List.length_filter_le (isSt row) (List.range i)
  rwa [List.length_range] at this
/-- the last place to which the row stays -/
theorem last_of {row : List (Option Nat)} {n k : Nat} (hk : k < n) (hn : n ≤ row.length) : ∃ ds d, (List.range (n - k)).filter (fun d => allEq row k (k + d)) = ds ++ [d] ∧ eE row n k = k + d ∧ k + d < n := by
  have h0 : 0 ∈ (List.range (n - k)).filter (fun d => allEq row k (k + d)) := by
    rw [List.mem_filter]
    refine ⟨by simp; omega, ?_⟩
    exact (allEq_iff (by omega) (by omega)).mpr fun m h1 h2 => by rw [show m = k by omega]
  have hne : (List.range (n - k)).filter (fun d => allEq row k (k + d)) ≠ [] := fun z => by rw [z] at h0; cases h0
  refine ⟨_, _, (List.dropLast_concat_getLast hne).symm, ?_, ?_⟩
  · unfold eE
    rw [List.getLast?_eq_some_getLast hne]
    rfl
  · have := List.mem_range.mp (List.mem_filter.mp (List.getLast_mem hne)).1
    omega
theorem bd_at {cl : List (Nat × Nat)} {k : Nat} (h : k < cl.length) : cl[k] = bd cl k := by
  unfold bd
  rw [List.getD_eq_getElem?_getD, List.getElem?_eq_getElem h]
  rfl
theorem rw_get {row : List (Option Nat)} {k : Nat} (h : k < row.length) : row[k] = rw' row k := by
  have := rw_at h
  rw [List.getElem?_eq_getElem h] at this
  exact Option.some.inj this
theorem ixR {row : List (Option Nat)} {k : Nat} {k1 k2 : Kd} {Q : KQ} (h : k < row.length) : rdIx k1 (eR row) k2 (.int (k : Int)) Q = Q k1 (eO (rw' row k)) := by
  unfold eR
  simp [atI_map, atI_nat h, rw_get h]
theorem atP {cl : List (Nat × Nat)} {k : Nat} (h : k < cl.length) : atI (cl.map eP) (k : Int) = some (eP (bd cl k)) := by
  rw [atI_map, atI_nat h, ← bd_at h]
  rfl
theorem ixP {cl : List (Nat × Nat)} {k : Nat} {k1 k2 : Kd} {Q : KQ} (h : k < cl.length) : rdIx k1 (.lst (cl.map eP)) k2 (eN k) Q = Q k1 (eP (bd cl k)) := by
  unfold eN
  rw [s_ixL, atP h]
  simp
theorem alk_eO {n : Nat} {o : Option Nat} : alkD n (eO o) = true := by cases o <;> cases n <;> rfl
theorem alk_eN {n : Nat} {o : Nat} : alkD n (eN o) = true := by cases n <;> rfl
theorem alk_int {n : Nat} {o : Int} : alkD n (.int o) = true := by cases n <;> rfl
theorem alk_map {α : Type} {f : α → D} {n : Nat} {l : List α} (hl : l.length ≤ 100000) (h : ∀ a, alkD n (f a) = true) : alkD (n + 1) (.lst (l.map f)) = true := by
  simp [alkD, hl, h]
theorem alk_mapT {α : Type} {f : α → D} {n : Nat} {l : List α} (hl : l.length ≤ 100000) (h : ∀ a, alkD n (f a) = true) : alkD (n + 1) (.tup (l.map f)) = true := by
  simp [alkD, hl, h]
theorem alk_eRun {n : Nat} {q : Run} : alkD (n + 1) (eRun q) = true := by simp [eRun, alkD, alk_eN, alk_eO]
theorem opts_of_rel {P : Option Nat → Prop} : ∀ {ys : List D}, (∀ y ∈ ys, ∃ j, y = eO j ∧ P j) → ∃ ns : List (Option Nat), ys = ns.map eO ∧ ∀ n ∈ ns, P n
  | [], _ => ⟨[], rfl, fun _ h => nomatch h⟩
  | y :: ys, h => by
    obtain ⟨j, rfl, hj⟩ := h y (by simp)
    obtain ⟨ns, rfl, hn⟩ := opts_of_rel (ys := ys) fun y hy => h y (by simp [hy])
    exact ⟨j :: ns, rfl, fun n hn' => (List.mem_cons.mp hn').elim (fun e => e ▸ hj) (hn n)⟩
end HD

set_option Elab.async false
set_option linter.all false
set_option maxRecDepth 100000
set_option maxHeartbeats 1000000
/-! the least row is the least of all rows -/
namespace HD
open PySem PySem.Spec PyProof.Rows L2
abbrev Cand := List Nat × Option Nat
/-- a row over clusters -/
def RowOf : List Cand → List (Option Nat) → Prop
  | [], r => r = []
  | q :: qs, r => ∃ f r', r = f :: r' ∧ f ∈ cands q.1 ∧ RowOf qs r'
theorem RowOf.len : ∀ {qs : List Cand} {r : List (Option Nat)}, RowOf qs r → r.length = qs.length
  | [], _, h => by rw [h]; rfl
  | q :: qs, r, ⟨f, r', e, _, h⟩ => by rw [e, List.length_cons, List.length_cons, RowOf.len h]
theorem RowOf.snoc : ∀ {qs : List Cand} {q : Cand} {r : List (Option Nat)}, RowOf (qs ++ [q]) r ↔ ∃ r' f, r = r' ++ [f] ∧ RowOf qs r' ∧ f ∈ cands q.1
  | [], q, r => by
    simp only [List.nil_append, RowOf]
    constructor
    · rintro ⟨f, r', rfl, h, rfl⟩
      exact ⟨[], f, rfl, rfl, h⟩
    · rintro ⟨r', f, rfl, rfl, h⟩
      exact ⟨f, [], rfl, h, rfl⟩
  | p :: qs, q, r => by
    simp only [List.cons_append, RowOf]
    constructor
    · rintro ⟨f, r', rfl, h, h2⟩
      obtain ⟨r2, g, rfl, h3, h4⟩ := RowOf.snoc.mp h2
      exact ⟨f :: r2, g, rfl, ⟨f, r2, rfl, h, h3⟩, h4⟩
    · rintro ⟨r', g, rfl, ⟨f, r2, rfl, h, h3⟩, h4⟩
      exact ⟨f, r2 ++ [g], rfl, h, RowOf.snoc.mpr ⟨r2, g, rfl, h3, h4⟩⟩
theorem RowOf.at : ∀ {qs : List Cand} {r : List (Option Nat)}, RowOf qs r ↔ r.length = qs.length ∧ ∀ (i : Nat) q f, qs[i]? = some q → r[i]? = some f → f ∈ cands q.1
  | [], r => by simp [RowOf]
  | q :: qs, r => by
    simp only [RowOf]
    constructor
    · rintro ⟨f, r', rfl, h, h2⟩
      obtain ⟨h3, h4⟩ := RowOf.at.mp h2
      refine ⟨by simp [h3], fun i q' f' e1 e2 => ?_⟩
      cases i with
      | zero => simp at e1 e2; rw [← e1, ← e2]; exact h
      | succ i => simp at e1 e2; exact h4 i q' f' e1 e2
    · rintro ⟨h1, h2⟩
      cases r with
      | nil => simp at h1
      | cons f r' =>
        exact ⟨f, r', rfl, h2 0 q f rfl rfl, RowOf.at.mpr ⟨by simpa using h1, fun i q' f' e1 e2 => h2 (i + 1) q' f' (by simpa using e1) (by simpa using e2)⟩⟩
/-- what a row costs, told from its end -/
def wayR (fs : List Face) : List Cand → List (Option Nat) → Way → Way
  | q :: qs, f :: r, w => wayR fs qs r (ext fs q.2 f w)
  | _, _, w => w
def wayOf (fs : List Face) (qs : List Cand) (r : List (Option Nat)) : Way := wayR fs qs r ((0, 0, 0), [])
theorem wayR_snoc (fs : List Face) : ∀ (qs : List Cand) (r : List (Option Nat)) (q : Cand) (f : Option Nat) (w : Way), r.length = qs.length → wayR fs (qs ++ [q]) (r ++ [f]) w = ext fs q.2 f (wayR fs qs r w)
  | [], [], q, f, w, _ => rfl
  | [], _ :: _, _, _, _, h => by simp at h
  | _ :: _, [], _, _, _, h => by simp at h
  | p :: qs, g :: r, q, f, w, h => by
    simp only [List.cons_append, wayR]
    exact wayR_snoc fs qs r q f _ (by simpa using h)
theorem wayOf_snoc (fs : List Face) {qs : List Cand} {r : List (Option Nat)} (q : Cand) (f : Option Nat) (h : r.length = qs.length) : wayOf fs (qs ++ [q]) (r ++ [f]) = ext fs q.2 f (wayOf fs qs r) := wayR_snoc fs qs r q f _ h
theorem wayR_row (fs : List Face) : ∀ (qs : List Cand) (r : List (Option Nat)) (w : Way), r.length = qs.length → (wayR fs qs r w).2 = w.2 ++ r
  | [], [], w, _ => by simp [wayR]
  | [], _ :: _, _, h => by simp at h
  | _ :: _, [], _, h => by simp at h
  | p :: qs, g :: r, w, h => by
    simp only [wayR]
    rw [wayR_row fs qs r _ (by simpa using h)]
    simp [ext]
theorem wayOf_row (fs : List Face) {qs : List Cand} {r : List (Option Nat)} (h : r.length = qs.length) : (wayOf fs qs r).2 = r := by
  unfold wayOf
  rw [wayR_row fs qs r _ h]
  rfl
theorem ltR_snoc : ∀ {a b : List (Option Nat)} {f : Option Nat}, a.length = b.length → ltR a b = true → ltR (a ++ [f]) (b ++ [f]) = true
  | [], [], f, _, h => by simp [ltR] at h
  | [], _ :: _, _, h, _ => by simp at h
  | _ :: _, [], _, h, _ => by simp at h
  | x :: a, y :: b, f, hl, h => by
    simp only [List.cons_append, ltR] at h ⊢
    by_cases e : x = y
    · rw [if_pos e] at h ⊢
      exact ltR_snoc (by simpa using hl) h
    · rw [if_neg e] at h ⊢
      exact h
theorem ltW_iff {a b : Way} : ltW a b = true ↔ (a.1 = b.1 ∧ ltR a.2 b.2 = true) ∨ (a.1 ≠ b.1 ∧ ltC a.1 b.1 = true) := by
  unfold ltW
  by_cases e : a.1 = b.1
  · simp [e]
  · simp [e]
/-- .. grows as it grew -/
theorem ext_lt (fs : List Face) {a b : Way} {want f : Option Nat} (hl : a.2.length = b.2.length) (hg : a.2.getLast? = b.2.getLast?) (h : ltW a b = true) : ltW (ext fs want f a) (ext fs want f b) = true := by
  have hn : a.2 = [] ↔ b.2 = [] := by rw [← List.length_eq_zero_iff, ← List.length_eq_zero_iff, hl]
  have hc : chgTo a.2 f = chgTo b.2 f := by simp only [chgTo, hg, ne_eq, hn]
  rw [ltW_iff] at h ⊢
  obtain ⟨⟨a1, a2, a3⟩, ra⟩ := a
  obtain ⟨⟨b1, b2, b3⟩, rb⟩ := b
  have he : ∀ r : Way, (ext fs want f r).2 = r.2 ++ [f] := fun _ => rfl
  rcases h with ⟨e, h⟩ | ⟨e, h⟩
  · refine .inl ⟨?_, ?_⟩
    · simp only [Prod.mk.injEq] at e
      obtain ⟨rfl, rfl, rfl⟩ := e
      simp only at hc
      simp only [ext, hc]
    · rw [he, he]
      exact ltR_snoc hl h
  · refine .inr ⟨?_, ?_⟩
    · intro z
      apply e
      simp only at hc
      simp only [ext, hc, Prod.mk.injEq] at z ⊢
      omega
    · rw [ltC_iff] at h ⊢
      simp only at hc
      simp only [ext, hc] at h ⊢
      omega
theorem best_all (fs : List Face) : ∀ p : List Cand, (∀ w ∈ bestW fs p, ∃ r, RowOf p r ∧ w = wayOf fs p r) ∧ ∀ r, RowOf p r → ∃ w ∈ bestW fs p, w.2.getLast? = r.getLast? ∧ ltW (wayOf fs p r) w = false := by
  refine snoc_ind ⟨fun w hw => ⟨[], rfl, by simp [bestW] at hw; exact hw⟩, fun r hr => ⟨((0, 0, 0), []), by simp [bestW], ?_⟩⟩ fun p q ih => ⟨fun w hw => ?_, fun r hr => ?_⟩
  · have : r = [] := hr
    subst this
    exact ⟨rfl, ltW_irr _⟩
  · rw [bestW_snoc] at hw
    obtain ⟨f, hf, rfl⟩ := List.mem_map.mp hw
    have hm := least_mem (ws := (bestW fs p).map (ext fs q.2 f)) (by simp [(bestW_ok fs p).1])
    obtain ⟨w', hw', e⟩ := List.mem_map.mp hm
    obtain ⟨r, hr, rfl⟩ := ih.1 w' hw'
    exact ⟨r ++ [f], RowOf.snoc.mpr ⟨r, f, rfl, hr, hf⟩, by rw [wayOf_snoc fs q f hr.len, ← e]⟩
  · obtain ⟨r', f, rfl, hr', hf⟩ := RowOf.snoc.mp hr
    obtain ⟨w, hw, hg, hlt⟩ := ih.2 r' hr'
    obtain ⟨r2, hr2, rfl⟩ := ih.1 w hw
    rw [wayOf_row fs hr2.len] at hg
    refine ⟨leastW ((bestW fs p).map (ext fs q.2 f)), by rw [bestW_snoc]; exact List.mem_map.mpr ⟨f, hf, rfl⟩, ?_, ?_⟩
    · have hm := least_mem (ws := (bestW fs p).map (ext fs q.2 f)) (by simp [(bestW_ok fs p).1])
      obtain ⟨w', _, e⟩ := List.mem_map.mp hm
      rw [← e]
      simp [ext]
    · rw [wayOf_snoc fs q f hr'.len]
      have hle := least_le (ws := (bestW fs p).map (ext fs q.2 f)) (List.mem_map.mpr ⟨_, hw, rfl⟩)
      cases hc : ltW (ext fs q.2 f (wayOf fs p r')) (leastW ((bestW fs p).map (ext fs q.2 f))) with
      | false => rfl
      | true =>
        by_cases he : wayOf fs p r2 = wayOf fs p r'
        · rw [he] at hle
          rw [hle] at hc
          cases hc
        · have hk : kin (wayOf fs p r2).2 (wayOf fs p r').2 := by
            rw [wayOf_row fs hr2.len, wayOf_row fs hr'.len]
            have key : ∀ {qs : List Cand} {r : List (Option Nat)}, RowOf qs r → r.map Option.isSome = qs.map fun q => !q.1.isEmpty := by
              intro qs
              induction qs with
              | nil => intro r h; rw [show r = [] from h]; rfl
              | cons q qs ihq =>
                rintro r ⟨f, r', rfl, h1, h2⟩
                simp [cands_some h1, ihq h2]
            exact (key hr2).trans (key hr').symm
          have hlt2 : ltW (wayOf fs p r2) (wayOf fs p r') = true := by
            cases hx : ltW (wayOf fs p r2) (wayOf fs p r') with
            | true => rfl
            | false => exact absurd (ltW_total hk hx hlt) he
          have := ext_lt fs (want := q.2) (f := f) (by rw [wayOf_row fs hr2.len, wayOf_row fs hr'.len, hr2.len, hr'.len]) (by rw [wayOf_row fs hr2.len, wayOf_row fs hr'.len, hg]) hlt2
          rw [ltW_trans this hc] at hle
          cases hle
/-- the least of all rows -/
theorem least_all (fs : List Face) (p : List Cand) : (∃ r, RowOf p r ∧ leastW (bestW fs p) = wayOf fs p r) ∧ ∀ r, RowOf p r → ltW (wayOf fs p r) (leastW (bestW fs p)) = false := by
  refine ⟨(best_all fs p).1 _ (least_mem (bestW_ok fs p).1), fun r hr => ?_⟩
  obtain ⟨w, hw, _, h⟩ := (best_all fs p).2 r hr
  cases hc : ltW (wayOf fs p r) (leastW (bestW fs p)) with
  | false => rfl
  | true =>
    obtain ⟨r2, hr2, e2⟩ := (best_all fs p).1 w hw
    by_cases he : w = wayOf fs p r
    · rw [← he, least_le hw] at hc
      cases hc
    · have hk : kin w.2 (wayOf fs p r).2 := by
        have key : ∀ {qs : List Cand} {r : List (Option Nat)}, RowOf qs r → r.map Option.isSome = qs.map fun q => !q.1.isEmpty := by
          intro qs
          induction qs with
          | nil => intro r h; rw [show r = [] from h]; rfl
          | cons q qs ihq =>
            rintro r ⟨f, r', rfl, h1, h2⟩
            simp [cands_some h1, ihq h2]
        rw [e2, wayOf_row fs hr2.len, wayOf_row fs hr.len]
        exact (key hr2).trans (key hr).symm
      have hlt2 : ltW w (wayOf fs p r) = true := by
        cases hx : ltW w (wayOf fs p r) with
        | true => rfl
        | false => exact absurd (ltW_total hk hx h) he
      have := ltW_trans hlt2 hc
      rw [least_le hw] at this
      cases this
end HD

set_option Elab.async false
set_option linter.all false
set_option maxRecDepth 100000
set_option maxHeartbeats 1000000
/-! stretches that are torn, and rows -/
namespace HD
open PySem PySem.Spec PyProof.Rows L2
/-- a row over choices -/
def RowE (ev : List (List Nat)) (r : List (Option Nat)) : Prop := r.length = ev.length ∧ ∀ (i : Nat) q f, ev[i]? = some q → r[i]? = some f → f ∈ cands q
theorem RowE_of {ev : List (List Nat)} {wants r : List (Option Nat)} (hw : wants.length = ev.length) : RowOf (ev.zip wants) r ↔ RowE ev r := by
  rw [RowOf.at]
  unfold RowE
  rw [List.length_zip, hw, Nat.min_self]
  constructor
  · rintro ⟨h1, h2⟩
    refine ⟨h1, fun i q f e1 e2 => ?_⟩
    have hi := (List.getElem?_eq_some_iff.mp e1).1
    exact h2 i (q, wants[i]) f (by rw [List.getElem?_zip_eq_some]; exact ⟨e1, List.getElem?_eq_getElem (by omega)⟩) e2
  · rintro ⟨h1, h2⟩
    refine ⟨h1, fun i q f e1 e2 => ?_⟩
    rw [List.getElem?_zip_eq_some] at e1
    exact h2 i q.1 f e1.1 e2
theorem chg_snoc_lt {r : List (Option Nat)} {f : Option Nat} {k : Nat} (h : k + 1 < r.length) : chg (r ++ [f]) k = chg r k := by
  unfold chg
  rw [List.getElem?_append_left (by omega), List.getElem?_append_left h]
theorem changesL_snoc (r : List (Option Nat)) (f : Option Nat) : (changesL (r ++ [f]) : Int) = changesL r + chgTo r f := by
  unfold changesL
  rw [List.length_append, List.length_singleton]
  by_cases h0 : r = []
  · subst h0
    simp [chgTo]
  · have hpos : 0 < r.length := List.length_pos_iff.mpr h0
    rw [show r.length + 1 - 1 = (r.length - 1) + 1 by omega, List.range_succ, List.filter_append, List.length_append]
    have e1 : (List.range (r.length - 1)).filter (chg (r ++ [f])) = (List.range (r.length - 1)).filter (chg r) := by
      apply List.filter_congr
      intro k hk
      have hk' : k < r.length - 1 := by simpa using hk
      exact chg_snoc_lt (by omega)
    rw [e1, List.filter_cons]
    have hg : (r ++ [f])[r.length - 1]? = r.getLast? := by
      rw [List.getElem?_append_left (by omega), List.getLast?_eq_getElem?]
    have hg2 : (r ++ [f])[r.length - 1 + 1]? = some f := by
      rw [show r.length - 1 + 1 = r.length by omega]
      simp
    unfold chg chgTo
    rw [hg, hg2]
    by_cases h : r.getLast? = some f
    · simp [h]
    · simp [h, h0]
theorem wayOf_changes (fs : List Face) : ∀ p : List Cand, ∀ r, RowOf p r → (wayOf fs p r).1.1 = changesL r := by
  refine snoc_ind (fun r hr => ?_) fun p q ih r hr => ?_
  · rw [show r = [] from hr]; rfl
  · obtain ⟨r', f, rfl, hr', hf⟩ := RowOf.snoc.mp hr
    rw [wayOf_snoc fs q f hr'.len, changesL_snoc, ← ih r' hr']
    simp only [ext, wayOf_row fs hr'.len]
/-- the row found: one of the rows, with the fewest changes -/
theorem bestL_row (fs : List Face) {ev : List (List Nat)} {wants : List (Option Nat)} (hw : wants.length = ev.length) : RowE ev (bestL fs ev wants) := by
  obtain ⟨r, hr, e⟩ := (least_all fs (ev.zip wants)).1
  unfold bestL
  rw [e, wayOf_row fs hr.len]
  exact (RowE_of hw).mp hr
theorem bestL_few (fs : List Face) {ev : List (List Nat)} {wants r : List (Option Nat)} (hw : wants.length = ev.length) (h : RowE ev r) : changesL (bestL fs ev wants) ≤ changesL r := by
  obtain ⟨r0, hr0, e0⟩ := (least_all fs (ev.zip wants)).1
  have hr := (RowE_of hw).mpr h
  have hl := (least_all fs (ev.zip wants)).2 r hr
  have e1 : bestL fs ev wants = r0 := by unfold bestL; rw [e0, wayOf_row fs hr0.len]
  rw [e1]
  rw [e0] at hl
  have c0 := wayOf_changes fs _ r0 hr0
  have c1 := wayOf_changes fs _ r hr
  have hn : ¬ ltW (wayOf fs (ev.zip wants) r) (wayOf fs (ev.zip wants) r0) = true := by rw [hl]; simp
  rw [ltW_iff] at hn
  by_cases hlt : changesL r < changesL r0
  · exfalso
    apply hn
    refine .inr ⟨fun z => ?_, ?_⟩
    · have h9 : (wayOf fs (ev.zip wants) r).1.1 = (wayOf fs (ev.zip wants) r0).1.1 := by rw [z]
      omega
    · rw [ltC_iff]
      exact .inl (by omega)
  · omega
/-! torn stretches -/
def segL (ev : List (List Nat)) (a b : Nat) : List (List Nat) := (ev.drop a).take (b + 1 - a)
def tornB (seg : List (List Nat)) : Bool := seg.any (fun q => !q.isEmpty) && !(seg.headD []).any fun f => seg.all fun q => q.contains f
theorem tornB_iff {seg : List (List Nat)} (h : seg ≠ []) : tornB seg = true ↔ (∃ q ∈ seg, q ≠ []) ∧ ¬ ∃ f, ∀ q ∈ seg, f ∈ q := by
  unfold tornB
  rw [Bool.and_eq_true, Bool.not_eq_true']
  have e1 : (seg.any (fun q => !q.isEmpty) = true) ↔ ∃ q ∈ seg, q ≠ [] := by simp
  have e2 : ((seg.headD []).any (fun f => seg.all fun q => q.contains f) = false) ↔ ¬ ∃ f, ∀ q ∈ seg, f ∈ q := by
    rw [← Bool.not_eq_true]
    apply not_congr
    simp only [List.any_eq_true, List.all_eq_true, List.contains_iff_mem]
    constructor
    · rintro ⟨f, _, h2⟩; exact ⟨f, h2⟩
    · rintro ⟨f, h2⟩
      refine ⟨f, ?_, h2⟩
      cases seg with
      | nil => exact absurd rfl h
      | cons q _ => exact h2 q (by simp)
  rw [e1, e2]
/-- torn: nothing to be shown by alike -/
theorem tornB_cands {seg : List (List Nat)} (h : seg ≠ []) : tornB seg = true ↔ ¬ ∃ f, ∀ q ∈ seg, f ∈ cands q := by
  rw [tornB_iff h]
  constructor
  · rintro ⟨⟨q, hq, hne⟩, h2⟩ ⟨f, hf⟩
    cases f with
    | none =>
      have := hf q hq
      simp [cands, hne] at this
    | some k =>
      apply h2
      refine ⟨k, fun q hq => ?_⟩
      have := hf q hq
      by_cases e : q = []
      · simp [cands, e] at this
      · simpa [cands, e] using this
  · intro h2
    constructor
    · apply Classical.byContradiction
      intro h3
      apply h2
      refine ⟨none, fun q hq => ?_⟩
      have : q = [] := Classical.byContradiction fun e => h3 ⟨q, hq, e⟩
      simp [cands, this]
    · rintro ⟨f, hf⟩
      apply h2
      refine ⟨some f, fun q hq => ?_⟩
      have := hf q hq
      have e : q ≠ [] := fun z => by rw [z] at this; cases this
      simpa [cands, e] using this
theorem seg_ne {ev : List (List Nat)} {a b : Nat} (h1 : a ≤ b) (h2 : b < ev.length) : segL ev a b ≠ [] := fun z => by
  have := congrArg List.length z
  simp [segL] at this
  omega
theorem seg_mem {ev : List (List Nat)} {a b : Nat} (h2 : b < ev.length) {q : List Nat} : q ∈ segL ev a b ↔ ∃ k, a ≤ k ∧ k ≤ b ∧ ev[k]? = some q := by
  unfold segL
  rw [List.mem_iff_getElem?]
  constructor
  · rintro ⟨i, hi⟩
    rw [List.getElem?_take] at hi
    split at hi
    · rw [List.getElem?_drop] at hi
      exact ⟨a + i, by omega, by omega, hi⟩
    · cases hi
  · rintro ⟨k, h1, h3, h4⟩
    refine ⟨k - a, ?_⟩
    rw [List.getElem?_take, if_pos (by omega), List.getElem?_drop, show a + (k - a) = k by omega]
    exact h4
/-- in a torn stretch each row changes -/
theorem torn_chg {ev : List (List Nat)} {r : List (Option Nat)} {a b : Nat} (h1 : a ≤ b) (h2 : b < ev.length) (hr : RowE ev r) (ht : tornB (segL ev a b) = true) : ∃ k, a ≤ k ∧ k < b ∧ chg r k = true := by
  apply Classical.byContradiction
  intro hn
  rw [tornB_cands (seg_ne h1 h2)] at ht
  apply ht
  have same : ∀ k, a ≤ k → k ≤ b → r[k]? = r[a]? := by
    intro k
    induction k with
    | zero => intro h _; rw [show a = 0 by omega]
    | succ k ih =>
      intro h3 h4
      by_cases e : a = k + 1
      · rw [e]
      · have h5 := ih (by omega) (by omega)
        rw [← h5]
        apply Classical.byContradiction
        intro h6
        apply hn
        refine ⟨k, by omega, by omega, ?_⟩
        unfold chg
        rw [decide_eq_true_eq]
        exact fun z => h6 z.symm
  have hla : a < r.length := by rw [hr.1]; omega
  refine ⟨r[a], fun q hq => ?_⟩
  obtain ⟨k, h3, h4, h5⟩ := (seg_mem h2).mp hq
  exact hr.2 k q _ h5 (by rw [same k h3 h4]; exact List.getElem?_eq_getElem hla)
/-- stretches in order, torn -/
def Chain (ev : List (List Nat)) : Nat → List (Nat × Nat) → Prop
  | _, [] => True
  | ahead, p :: ps => ahead ≤ p.1 ∧ p.1 ≤ p.2 ∧ p.2 < ev.length ∧ tornB (segL ev p.1 p.2) = true ∧ Chain ev p.2 ps
def chgFrom (r : List (Option Nat)) (a : Nat) : Nat := ((List.range (r.length - 1)).filter fun k => chg r k && decide (a ≤ k)).length
theorem chgFrom_le {r : List (Option Nat)} {a b : Nat} (h : a ≤ b) : chgFrom r b ≤ chgFrom r a := by
  unfold chgFrom
  have e : (List.range (r.length - 1)).filter (fun k => chg r k && decide (b ≤ k)) = ((List.range (r.length - 1)).filter fun k => chg r k && decide (a ≤ k)).filter fun k => decide (b ≤ k) := by
    rw [List.filter_filter]
    apply List.filter_congr
    intro k _
    cases chg r k <;> by_cases c1 : b ≤ k <;> by_cases c2 : a ≤ k <;> simp [c1, c2]
    all_goals omega
  rw [e]
  exact List.length_filter_le _ _
theorem chgFrom_lt {r : List (Option Nat)} {a b k : Nat} (h1 : a ≤ k) (h2 : k < b) (h3 : k < r.length - 1) (h4 : chg r k = true) : chgFrom r b + 1 ≤ chgFrom r a := by
  unfold chgFrom
  have e : (List.range (r.length - 1)).filter (fun k => chg r k && decide (b ≤ k)) = ((List.range (r.length - 1)).filter fun k => chg r k && decide (a ≤ k)).filter fun k => decide (b ≤ k) := by
    rw [List.filter_filter]
    apply List.filter_congr
    intro k _
    cases chg r k <;> by_cases c1 : b ≤ k <;> by_cases c2 : a ≤ k <;> simp [c1, c2]
    all_goals omega
  rw [e]
  apply Nat.succ_le_of_lt
  rw [List.length_filter_lt_length_iff_exists]
  exact ⟨k, by simp [h1, h3, h4], by simp; omega⟩
theorem chain_le {ev : List (List Nat)} {r : List (Option Nat)} (hr : RowE ev r) : ∀ {ps : List (Nat × Nat)} {a : Nat}, Chain ev a ps → ps.length ≤ chgFrom r a
  | [], a, _ => Nat.zero_le _
  | p :: ps, a, ⟨h1, h2, h3, h4, h5⟩ => by
    obtain ⟨k, k1, k2, k3⟩ := torn_chg h2 h3 hr h4
    have hk : k < r.length - 1 := by rw [hr.1]; omega
    have := chgFrom_lt (r := r) (a := p.1) (b := p.2) k1 k2 hk k3
    have := chain_le hr h5
    have := chgFrom_le (r := r) h1
    simp
    omega
theorem chain_few {ev : List (List Nat)} {r : List (Option Nat)} (hr : RowE ev r) {ps : List (Nat × Nat)} (h : Chain ev 0 ps) : ps.length ≤ changesL r := by
  have := chain_le hr h
  unfold chgFrom at this
  unfold changesL
  simpa using this
/-! the reason found -/
def reasonS (ev : List (List Nat)) (s : List (Nat × Nat) × Nat) (last : Nat) : List (Nat × Nat) × Nat := if tornB (segL ev s.2 last) = true then (s.1 ++ [(s.2, last)], last) else s
def reasonN (ev : List (List Nat)) (n : Nat) : List (Nat × Nat) × Nat := (List.range n).foldl (reasonS ev) ([], 0)
def reasonL (ev : List (List Nat)) : List (Nat × Nat) := (reasonN ev ev.length).1
theorem reasonN_s (ev : List (List Nat)) (n : Nat) : reasonN ev (n + 1) = reasonS ev (reasonN ev n) n := by
  unfold reasonN
  rw [List.range_succ, List.foldl_append]
  rfl
theorem chain_snoc {ev : List (List Nat)} : ∀ {ps : List (Nat × Nat)} {a : Nat} {p : Nat × Nat}, Chain ev a ps → (ps.getLast?.map (·.2)).getD a ≤ p.1 → p.1 ≤ p.2 → p.2 < ev.length → tornB (segL ev p.1 p.2) = true → Chain ev a (ps ++ [p])
  | [], a, p, _, h1, h2, h3, h4 => ⟨by simpa using h1, h2, h3, h4, trivial⟩
  | q :: ps, a, p, ⟨g1, g2, g3, g4, g5⟩, h1, h2, h3, h4 => by
    refine ⟨g1, g2, g3, g4, chain_snoc g5 ?_ h2 h3 h4⟩
    cases ps with
    | nil => simpa using h1
    | cons c ps =>
      rw [List.getLast?_cons_cons] at h1
      rw [List.getLast?_eq_some_getLast (by simp)] at h1 ⊢
      exact h1
theorem reason_chain (ev : List (List Nat)) : ∀ n, n ≤ ev.length → Chain ev 0 (reasonN ev n).1 ∧ ((reasonN ev n).1.getLast?.map (·.2)).getD 0 = (reasonN ev n).2 ∧ (reasonN ev n).2 ≤ n ∧ (reasonN ev n).1.length ≤ n ∧ (0 < n → (reasonN ev n).2 < n)
  | 0, _ => ⟨trivial, rfl, Nat.le_refl _, Nat.le_refl _, fun h => h⟩
  | n + 1, h => by
    obtain ⟨h1, h2, h3, h4, h5⟩ := reason_chain ev n (by omega)
    rw [reasonN_s]
    unfold reasonS
    split
    · rename_i ht
      refine ⟨chain_snoc h1 (by rw [h2]; exact Nat.le_refl _) h3 (by simp; omega) ht, by simp, by simp, by simp; omega, fun _ => by simp⟩
    · exact ⟨h1, h2, by omega, by omega, fun _ => by omega⟩
/-- a row for what has been walked -/
theorem reason_row (ev : List (List Nat)) : ∀ n, n < ev.length → (∃ f, ∀ q ∈ segL ev (reasonN ev (n + 1)).2 n, f ∈ cands q) ∧ ∀ f, (∀ q ∈ segL ev (reasonN ev (n + 1)).2 n, f ∈ cands q) → ∃ r, RowE (ev.take (n + 1)) r ∧ r.getLast? = some f ∧ changesL r ≤ (reasonN ev (n + 1)).1.length
  | 0, h0 => by
    have e : reasonN ev (0 + 1) = ([], 0) := by
      rw [reasonN_s]
      unfold reasonS
      rw [if_neg]
      · rfl
      · show ¬ tornB (segL ev 0 0) = true
        rw [tornB_cands (seg_ne (Nat.le_refl _) h0)]
        simp only [Classical.not_not]
        refine ⟨(cands ev[0]).head (by unfold cands; split <;> simp_all), fun q hq => ?_⟩
        obtain ⟨k, h1, h2, h3⟩ := (seg_mem h0).mp hq
        have hk : k = 0 := by omega
        subst hk
        rw [List.getElem?_eq_getElem h0] at h3
        cases h3
        exact List.head_mem _
    rw [e]
    have hs : ∀ q, q ∈ segL ev 0 0 ↔ q = ev[0] := fun q => by
      rw [seg_mem h0]
      constructor
      · rintro ⟨k, h1, h2, h3⟩
        have hk : k = 0 := by omega
        subst hk
        rw [List.getElem?_eq_getElem h0] at h3
        exact (Option.some.inj h3).symm
      · rintro rfl
        exact ⟨0, by omega, by omega, List.getElem?_eq_getElem h0⟩
    constructor
    · refine ⟨(cands ev[0]).head (by unfold cands; split <;> simp_all), fun q hq => ?_⟩
      rw [(hs q).mp hq]
      exact List.head_mem _
    · intro f hf
      refine ⟨[f], ⟨by simp; omega, fun i q g e1 e2 => ?_⟩, rfl, by simp [changesL]⟩
      have hi := (List.getElem?_eq_some_iff.mp e2).1
      have hi0 : i = 0 := by simpa using hi
      subst hi0
      simp at e2
      subst e2
      apply hf
      rw [hs]
      rw [List.getElem?_take, if_pos (by omega), List.getElem?_eq_getElem h0] at e1
      exact (Option.some.inj e1).symm
  | n + 1, hn => by
    obtain ⟨⟨f0, hf0⟩, ih⟩ := reason_row ev n (by omega)
    obtain ⟨_, _, hle, _, hlt⟩ := reason_chain ev (n + 1) (by omega)
    have hlt := hlt (by omega)
    rw [reasonN_s ev (n + 1)]
    have step : ∀ {r : List (Option Nat)} {f : Option Nat}, RowE (ev.take (n + 1)) r → f ∈ cands ev[n + 1] → RowE (ev.take (n + 1 + 1)) (r ++ [f]) := fun {r f} hr hf => by
      have hl := hr.1
      have hl' : r.length = n + 1 := by rw [hl, List.length_take]; omega
      refine ⟨by rw [List.length_append, List.length_take, hl']; simp; omega, fun i q g e1 e2 => ?_⟩
      rw [List.getElem?_take] at e1
      split at e1
      · by_cases hi : i < n + 1
        · rw [List.getElem?_append_left (by omega)] at e2
          exact hr.2 i q g (by rw [List.getElem?_take, if_pos hi]; exact e1) e2
        · have hi' : i = n + 1 := by omega
          subst hi'
          rw [List.getElem?_append_right (by omega), hl', Nat.sub_self] at e2
          rw [List.getElem?_eq_getElem hn] at e1
          cases e1
          simp at e2
          rw [← e2]
          exact hf
      · cases e1
    have last_in : ∀ {a : Nat}, a ≤ n + 1 → ev[n + 1] ∈ segL ev a (n + 1) := fun {a} h => (seg_mem hn).mpr ⟨n + 1, h, Nat.le_refl _, List.getElem?_eq_getElem hn⟩
    have sub_in : ∀ {a : Nat} {q : List Nat}, q ∈ segL ev a n → q ∈ segL ev a (n + 1) := fun {a q} h => by
      obtain ⟨k, h1, h2, h3⟩ := (seg_mem (by omega)).mp h
      exact (seg_mem hn).mpr ⟨k, h1, by omega, h3⟩
    unfold reasonS
    split
    · rename_i ht
      simp only
      have hs : ∀ q, q ∈ segL ev (n + 1) (n + 1) ↔ q = ev[n + 1] := fun q => by
        rw [seg_mem hn]
        constructor
        · rintro ⟨k, h1, h2, h3⟩
          have hk : k = n + 1 := by omega
          subst hk
          rw [List.getElem?_eq_getElem hn] at h3
          exact (Option.some.inj h3).symm
        · rintro rfl
          exact ⟨n + 1, by omega, by omega, List.getElem?_eq_getElem hn⟩
      constructor
      · refine ⟨(cands ev[n + 1]).head (by unfold cands; split <;> simp_all), fun q hq => ?_⟩
        rw [(hs q).mp hq]
        exact List.head_mem _
      · intro f hf
        obtain ⟨r, hr, hg, hc⟩ := ih f0 hf0
        refine ⟨r ++ [f], step hr (hf _ ((hs _).mpr rfl)), by simp, ?_⟩
        have := changesL_snoc r f
        have h1 : chgTo r f ≤ 1 := by unfold chgTo; split <;> omega
        rw [List.length_append, List.length_singleton]
        omega
    · rename_i ht
      constructor
      · rw [tornB_cands (seg_ne (by omega) hn), Classical.not_not] at ht
        exact ht
      · intro f hf
        obtain ⟨r, hr, hg, hc⟩ := ih f fun q hq => hf q (sub_in hq)
        refine ⟨r ++ [f], step hr (hf _ (last_in (by omega))), by simp, ?_⟩
        have := changesL_snoc r f
        have h1 : chgTo r f = 0 := by unfold chgTo; rw [if_neg]; rintro ⟨_, h⟩; exact h hg
        omega
theorem reason_few (ev : List (List Nat)) : ∃ r, RowE ev r ∧ changesL r ≤ (reasonL ev).length := by
  cases h : ev.length with
  | zero =>
    have : ev = [] := List.length_eq_zero_iff.mp h
    subst this
    exact ⟨[], ⟨rfl, fun i q f e => by simp at e⟩, by simp [changesL]⟩
  | succ n =>
    obtain ⟨⟨f, hf⟩, h2⟩ := reason_row ev n (by omega)
    obtain ⟨r, hr, _, hc⟩ := h2 f hf
    rw [← h, List.take_length] at hr
    refine ⟨r, hr, ?_⟩
    unfold reasonL
    rw [h]
    exact hc
/-- as many as there are changes -/
theorem reason_num (fs : List Face) {ev : List (List Nat)} {wants : List (Option Nat)} (hw : wants.length = ev.length) : (reasonL ev).length = changesL (bestL fs ev wants) := by
  have h1 := chain_few (bestL_row fs hw) (reason_chain ev ev.length (Nat.le_refl _)).1
  obtain ⟨r, hr, hc⟩ := reason_few ev
  have h2 := bestL_few fs hw hr
  unfold reasonL at hc ⊢
  omega
end HD

set_option Elab.async false
set_option linter.all false
set_option maxRecDepth 100000
set_option maxHeartbeats 1000000
/-! readings: stretches -/
namespace HD
open PySem PySem.Spec PyProof.Rows L2
/-! clusters are the parts -/
theorem parts_flat (t : List Int) : (partsL t).flatten = t := by
  refine snoc_ind (P := fun t => (partsL t).flatten = t) (by simp [partsL]) (fun t s ih => ?_) t
  rw [partsL_snoc]
  unfold pstep
  split
  · rename_i h
    have hg := List.getLast?_eq_some_getLast h.2
    have e := List.dropLast_concat_getLast h.2
    rw [← e] at ih
    simp [hg] at ih ⊢
    conv => rhs; rw [← ih]
    simp
  · simp [ih]
theorem bnd_cut : ∀ (cs : List (List Int)) (x : List Int), (bnd x.length cs).map (fun p => ((x ++ cs.flatten).drop p.1).take (p.2 - p.1)) = cs
  | [], _ => rfl
  | c :: cs, x => by
    have ih := bnd_cut cs (x ++ c)
    simp only [bnd, List.map_cons, List.flatten_cons]
    rw [List.length_append] at ih
    rw [← List.append_assoc, ih]
    congr 1
    rw [List.append_assoc, List.drop_append_of_le_length (Nat.le_refl _), List.drop_length, List.nil_append, show x.length + c.length - x.length = c.length by omega, List.take_append_of_le_length (Nat.le_refl _), List.take_length]
theorem cl_parts (t : List Int) : (clL t).map (fun p => (t.drop p.1).take (p.2 - p.1)) = partsL t := by
  have := bnd_cut (partsL t) []
  rw [List.nil_append, parts_flat] at this
  rw [clL_bounds]
  exact this
@[simp] theorem csL59 {l : List (List Nat)} : D.cmps 59 (l.map eL) = true := cmps_map (fun _ => cmL) l
@[simp] theorem esL {a b : List (List Nat)} : deqs (a.map eL) (b.map eL) = decide (a = b) := es_map (fun _ _ => eqL) a b
theorem flL {l : List (List Nat)} (h : l ≠ []) : D.flats (l.map eL) = false := by
  cases l with
  | nil => exact absurd rfl h
  | cons a l => simp [eL]
theorem cut_seg {ev : List (List Nat)} {i j : Nat} : cutD (ev.map eL) (some (i : Int)) (some ((j : Int) + 1)) = (segL ev i j).map eL := by
  have e1 : (j : Int) + 1 = ((j + 1 : Nat) : Int) := by omega
  rw [cutD_map, e1, cutD_nat]
  rfl
theorem atL0 {seg : List (List Nat)} (h : seg ≠ []) : atI (seg.map eL) 0 = some (eL (seg.headD [])) := by
  cases seg with
  | nil => exact absurd rfl h
  | cons a l => simp
@[simp] theorem inN {l : List Nat} {s : Nat} : ((l.map eN).any fun y => dEqS y (.int (s : Int))) = l.contains s := by
  induction l with
  | nil => rfl
  | cons a l ih =>
    simp only [List.map_cons, List.any_cons, ih, eN, dq_ii, List.contains_cons]
    congr 1
    rw [Bool.eq_iff_iff]
    simp
    omega
theorem inN' {l : List Nat} {s : Nat} : ((l.map eN).any fun y => dEqS y (eN s)) = l.contains s := inN
@[simp] theorem allN {l : List Nat} : (l.map eN).all D.scl = true := by simp
theorem head_in {seg : List (List Nat)} {f : Nat} (h : f ∈ seg.headD []) : seg.headD [] ∈ seg := by
  cases seg with
  | nil => cases h
  | cons a l => simp
theorem seg_len {ev : List (List Nat)} {i j : Nat} : (segL ev i j).length ≤ ev.length := by
  unfold segL
  simp
  omega
def f_is_torn : DSp := dsp3 fun a b c Q => ∃ (ev : List (List Nat)) (i j : Nat), a = .lst (ev.map eL) ∧ b = .int (i : Int) ∧ c = .int (j : Int) ∧ i ≤ j ∧ j < ev.length ∧ ev.length ≤ 1000 ∧ (∀ q ∈ ev, q.length ≤ 1000) ∧ Q (.bl (tornB (segL ev i j)))
-- is_torn(every, first, last): 0 every 1 first 2 last 3 some 4 faces 5 face
@[reducible] def b_is_torn : DTS :=
  (dSeq (dAsg (dSl (dVar 0) (dPt (dVar 1)) (dPt (dOp rdAdd (dVar 2) (dC (.int 1))))) (dgName 3))
    (dSeq (dIfS (dB (dOp rdEq (dLc (diSq (dVar 3)) (dgName 4) (dB (dOp rdNe (dVar 4) (dLst dNil))) (dVar 4) [4]) (dLst dNil))) (dRet (dC (.bl false))) dNext)
    (dRet (dOp rdEq (dLc (diSq (dOp rdIx (dVar 3) (dC (.int 0)))) (dgName 5) (dB (dOp rdEq (dLc (diSq (dVar 3)) (dgName 4) (dB (dOp (rdIn true) (dVar 5) (dVar 4))) (dVar 4) [4]) (dLst dNil))) (dVar 5) [5]) (dLst dNil)))))

theorem rd_is_torn : Rd 6 f_is_torn b_is_torn := by
  rintro XX ds Q ⟨_, _, _, rfl, ev, i, j, rfl, rfl, rfl, hij, hj, hl, hql, hq⟩
  have hne := seg_ne hij hj
  have hsl := seg_len (ev := ev) (i := i) (j := j)
  have hsm : ∀ q ∈ segL ev i j, q.length ≤ 1000 := fun q h => by
    obtain ⟨k, _, _, h3⟩ := (seg_mem hj).mp h
    exact hql q (List.mem_of_getElem? h3)
  simp [b_is_torn, ini, cut_seg, flL hne]
  generalize segL ev i j = seg at *
  refine lc_fil seg eL (k := .sf) .sf (fun q => !q.isEmpty) eL rfl (fun Qi h => by simpa using h) (by omega) rfl (by decide) (fun q hm K K0 h1 h0 => ?_) ?_
  · simp [wipeR]
    by_cases c : q = []
    · subst c
      exact .inl ⟨by simp [eL], h0 rfl⟩
    · refine .inr ⟨by simp [eL, c], h1 (by simp [c]) _ (.inl rfl)⟩
  · simp
    by_cases c : seg.filter (fun q => !q.isEmpty) = []
    · refine .inr ⟨?_, ?_⟩
      · simpa [List.filter_eq_nil_iff] using c
      · have : tornB seg = false := by
          unfold tornB
          rw [Bool.and_eq_false_iff]
          exact .inl (by simpa [List.filter_eq_nil_iff] using c)
        rw [this] at hq
        exact hq
    · refine .inl ⟨by simpa [List.filter_eq_nil_iff] using c, ?_⟩
      have c2 : seg.any (fun q => !q.isEmpty) = true := by
        cases h : seg.any (fun q => !q.isEmpty) with
        | true => rfl
        | false => exact absurd (by simpa [List.filter_eq_nil_iff] using h) c
      refine lc_fil (seg.headD []) eN (k := .sf) .fr (fun f => seg.all fun q => q.contains f) eN rfl (fun Qi h => by simp [atL0 hne, eL]; simpa using h) (by
        by_cases e : seg.headD [] = []
        · rw [e]; simp
        · obtain ⟨x, hx⟩ := List.exists_mem_of_ne_nil _ e
          have := hsm _ (head_in hx)
          omega) rfl (by decide) (fun f hf K K0 h1 h0 => ?_) ?_
      · simp [wipeR]
        refine lc_fil seg eL (k := .sf) .sf (fun q => !q.contains f) eL rfl (fun Qi h => by simpa using h) (by omega) rfl (by decide) (fun q hm K K0 h1 h0 => ?_) ?_
        · simp [wipeR, eL, inN']
          by_cases c : f ∈ q
          · exact .inl ⟨c, h0 (by simp [c])⟩
          · refine .inr ⟨fun x hx z => c (z ▸ hx), h1 (by simp [c]) _ (.inl rfl)⟩
        · simp
          by_cases c : seg.all (fun q => q.contains f) = true
          · exact .inr ⟨by simpa using c, h1 c _ kf⟩
          · refine .inl ⟨by simpa using c, h0 (by simpa using c)⟩
      · simp
        have : tornB seg = decide ((seg.headD []).filter (fun f => seg.all fun q => q.contains f) = []) := by
          unfold tornB
          rw [c2, Bool.true_and, Bool.eq_iff_iff, decide_eq_true_eq, List.filter_eq_nil_iff]
          simp
        rw [this] at hq
        simpa using hq
end HD

set_option Elab.async false
set_option linter.all false
set_option maxRecDepth 100000
set_option maxHeartbeats 1000000
/-! readings: the law's stretches -/
namespace HD
open PySem PySem.Spec PyProof.Rows L2
theorem eqNi {x f : Nat} : dEqS (eN x) (.int (f : Int)) = decide (x = f) := by
  rw [eN, dq_ii, Bool.eq_iff_iff]
  simp
  try omega
def f_having2 : DSp := dsp2 fun a b Q => ∃ (fs : List Face) (l : List Int), a = .lst (fs.map eF) ∧ b = .lst (l.map .int) ∧ fs.length ≤ 1000 ∧ l.length ≤ 1000 ∧ Q (eL (havingL fs l))
-- _law_having(_law_faces_here, _law_signs_here): 0 _law_faces_here 1 _law_signs_here 2 _law_k 3 _law_sign
@[reducible] def b_having2 : DTS :=
  (dRet (dLc (diRg1 (dCons (dCB rdLen (dCons (dVar 0) dNil)) dNil)) (dgName 2) (dB (dOp rdEq (dLc (diSq (dVar 1)) (dgName 3) (dB (dOp (rdIn true) (dVar 3) (dOp rdIx (dOp rdIx (dVar 0) (dVar 2)) (dC (.int 2))))) (dVar 3) [3]) (dLst dNil))) (dVar 2) [2]))

theorem rd_having2 : Rd 4 f_having2 b_having2 := by
  rintro XX ds Q ⟨_, _, rfl, fs, l, rfl, rfl, hf, hl, hq⟩
  simp [b_having2, ini]
  refine lc_fil (List.range fs.length) (fun i => D.int (0 + ((i : Nat) : Int))) (k := .fr) .fr (fun k => l.all (hasS fs k)) eN rfl (fun Qi h => by simp; exact ⟨by omega, h⟩) (by simp; omega) rfl (by decide) (fun i hi K K0 h1 h0 => ?_) (by simpa [havingL, eL] using hq)
  have hi' : i < fs.length := by simpa using hi
  simp [wipeR]
  refine lc_fil l .int (k := .sf) .fr (fun s => !hasS fs i s) .int rfl (fun Qi h => by simpa using h) (by omega) rfl (by decide) (fun s hm K' K0' h1' h0' => ?_) ?_
  · simp [wipeR, atI_map, atI_nat hi']
    refine ⟨_, rfl, ?_⟩
    have e : hasS fs i s = fs[i].signs.contains s := by simp [hasS, hi']
    simp [atI, eF, tints, ixN]
    by_cases c : fs[i].signs.contains s = true
    · refine .inl ⟨by simpa using c, h0' (by rw [e, c]; rfl)⟩
    · refine .inr ⟨fun x hx z => c (by subst z; simpa using hx), h1' (by rw [e]; simpa using c) _ kf⟩
  · simp
    by_cases c : l.all (hasS fs i) = true
    · exact .inr ⟨by simpa using c, h1 c _ kf⟩
    · exact .inl ⟨by simpa using c, h0 (by simpa using c)⟩
def f_every : DSp := dsp2 fun a b Q => ∃ (fs : List Face) (t : List Int), a = .lst (fs.map eF) ∧ b = .lst (t.map .int) ∧ fs.length ≤ 1000 ∧ t.length ≤ 1000 ∧ Q (.lst ((everyL fs t).map eL))
-- _law_every(_law_faces_here, _law_text): 0 _law_faces_here 1 _law_text 2 _law_begin 3 _law_end
@[reducible] def b_every : DTS :=
  (dRet (dLc (diSq (dCall f_clusters (dCons (dVar 1) dNil))) (dgTup 2 (dgCons (dgName 2) (dgCons (dgName 3) dgNil))) dYes (dCall f_having2 (dCons (dVar 0) (dCons (dSl (dVar 1) (dPt (dVar 2)) (dPt (dVar 3))) dNil))) [2, 3]))

theorem rd_every : Rd 4 f_every b_every := by
  rintro XX ds Q ⟨_, _, rfl, fs, t, rfl, rfl, hf, hl, hq⟩
  simp [b_every, ini]
  have hcl : (clL t).length ≤ 1000 := by rw [clL_len]; have := partsL_len t; omega
  refine lc_map (clL t) eP (k := .fr) .fr (fun p => eL (havingL fs ((t.drop p.1).take (p.2 - p.1)))) rfl (fun Qi h => by simp [f_clusters, hl]; exact h) (by omega) rfl (by decide) (fun p hp K hk => ?_) ?_
  · simp [wipeR, eP, eN, cutD_map, cutD_nat]
    refine ⟨_, _, rfl, fs, (t.drop p.1).take (p.2 - p.1), rfl, by simp, hf, by simp; omega, hk _ (.inl rfl)⟩
  · have e : (clL t).map (fun p => eL (havingL fs ((t.drop p.1).take (p.2 - p.1)))) = (everyL fs t).map eL := by
      have := cl_parts t
      unfold everyL
      rw [← this]
      simp
    rw [e]
    simp
    exact hq
theorem every_lt {fs : List Face} {t : List Int} (h : fs.length ≤ 8) : ∀ q ∈ everyL fs t, ∀ f ∈ q, f < 8 := fun q hq f hf => by
  obtain ⟨c, _, rfl⟩ := List.mem_map.mp hq
  have := (List.mem_filter.mp hf).1
  simp at this
  omega
theorem every_q {fs : List Face} {t : List Int} : ∀ q ∈ everyL fs t, q.length ≤ fs.length := fun q hq => by
  obtain ⟨c, _, rfl⟩ := List.mem_map.mp hq
  exact having_len fs c
def f_torn : DSp := dsp3 fun a b c Q => ∃ (ev : List (List Nat)) (i j : Nat), a = .lst (ev.map eL) ∧ b = .int (i : Int) ∧ c = .int (j : Int) ∧ i ≤ j ∧ j < ev.length ∧ ev.length ≤ 1000 ∧ (∀ q ∈ ev, ∀ f ∈ q, f < 8) ∧ Q (.bl (tornB (segL ev i j)))
-- _law_torn(_law_every_here, _law_first, _law_last): 0 _law_every_here 1 _law_first 2 _law_last 3 _law_some 4 _law_one 5 _law_face
@[reducible] def b_torn : DTS :=
  (dSeq (dAsg (dSl (dVar 0) (dPt (dVar 1)) (dPt (dOp rdAdd (dVar 2) (dC (.int 1))))) (dgName 3))
    (dSeq (dIfS (dB (dOp rdEq (dCB rdMax (dCons (dLc (diSq (dVar 3)) (dgName 4) dYes (dCB rdLen (dCons (dVar 4) dNil)) [4]) dNil)) (dC (.int 0)))) (dRet (dC (.bl false))) dNext)
    (dRet (dOp rdEq (dLc (diRg1 (dCons (dC (.int 8)) dNil)) (dgName 5) (dB (dOp rdEq (dLc (diSq (dVar 3)) (dgName 4) (dB (dOp (rdIn false) (dVar 5) (dVar 4))) (dVar 4) [4]) (dVar 3))) (dVar 5) [5]) (dLst dNil)))))

theorem rd_torn : Rd 6 f_torn b_torn := by
  rintro XX ds Q ⟨_, _, _, rfl, ev, i, j, rfl, rfl, rfl, hij, hj, hl, hql, hq⟩
  have hne := seg_ne hij hj
  have hsl := seg_len (ev := ev) (i := i) (j := j)
  have hsm : ∀ q ∈ segL ev i j, ∀ f ∈ q, f < 8 := fun q h => by
    obtain ⟨k, _, _, h3⟩ := (seg_mem hj).mp h
    exact hql q (List.mem_of_getElem? h3)
  simp [b_torn, ini, cut_seg, flL hne]
  generalize segL ev i j = seg at *
  refine lc_map seg eL (k := .sf) .fr (fun q => .int (q.length : Int)) rfl (fun Qi h => by simpa using h) (by omega) rfl (by decide) (fun q hm K hk => ?_) ?_
  · simp [wipeR, eL]
    exact hk _ kf
  · refine ⟨seg.map fun q => (q.length : Int), by simp, by simpa using List.length_pos_iff.mpr hne, fun m hm hmax => ?_⟩
    simp
    obtain ⟨q0, hq0, rfl⟩ := List.mem_map.mp hm
    by_cases c : seg.any (fun q => !q.isEmpty) = true
    · have hm0 : ¬ ((q0.length : Int) = 0) := fun z => by
        obtain ⟨q, hq1, hq2⟩ := List.any_eq_true.mp c
        have := hmax _ (List.mem_map.mpr ⟨q, hq1, rfl⟩)
        have : q = [] := List.length_eq_zero_iff.mp (by omega)
        rw [this] at hq2
        cases hq2
      refine .inl ⟨by simpa using hm0, ?_⟩
      refine lc_fil (List.range 8) (fun i => D.int (0 + ((i : Nat) : Int))) (k := .fr) .fr (fun f => seg.all fun q => q.contains f) eN rfl (fun Qi h => by simp; exact h) (by simp) rfl (by decide) (fun f hf K K0 h1 h0 => ?_) ?_
      · simp [wipeR]
        refine lc_fil seg eL (k := .sf) .sf (fun q => q.contains f) eL rfl (fun Qi h => by simpa using h) (by omega) rfl (by decide) (fun q hm K K0 h1 h0 => ?_) ?_
        · simp [wipeR, eL, eqNi]
          by_cases c : f ∈ q
          · exact .inr ⟨c, h1 (by simp [c]) _ (.inl rfl)⟩
          · refine .inl ⟨fun x hx z => c (z ▸ hx), h0 (by simp [c])⟩
        · simp
          by_cases c : seg.all (fun q => q.contains f) = true
          · exact .inr ⟨by simpa using c, h1 c _ kf⟩
          · refine .inl ⟨by simpa using c, h0 (by simpa using c)⟩
      · simp
        have : tornB seg = decide ((List.range 8).filter (fun f => seg.all fun q => q.contains f) = []) := by
          rw [Bool.eq_iff_iff, tornB_iff hne, decide_eq_true_eq, List.filter_eq_nil_iff]
          constructor
          · rintro ⟨_, h2⟩ f _ h3
            exact h2 ⟨f, by simpa using h3⟩
          · intro h2
            refine ⟨by simpa using c, fun ⟨f, h3⟩ => ?_⟩
            obtain ⟨q, hq⟩ := List.exists_mem_of_ne_nil _ hne
            exact h2 f (by simpa using hsm q hq f (h3 q hq)) (by simpa using h3)
        rw [this] at hq
        simpa using hq
    · have e : q0 = [] := by
        cases q0 with
        | nil => rfl
        | cons a l => exact absurd (List.any_eq_true.mpr ⟨a :: l, hq0, rfl⟩) c
      have : tornB seg = false := by
        unfold tornB
        rw [Bool.and_eq_false_iff]
        exact .inl (by simpa using c)
      rw [this] at hq
      refine .inr ⟨by simp [e], hq⟩
end HD

set_option Elab.async false
set_option linter.all false
set_option maxRecDepth 100000
set_option maxHeartbeats 1000000
/-! a list turned about, kept as a new list -/
namespace HD
open PySem PySem.Spec PyProof.Rows L2
section
variable {prog : Program} {w : World} {A : Around} {s : Shared} {E : Value → Shared → Prop}
/-- an empty list takes what a backward walk tells -/
theorem fillBack {R : Result → Shared → Prop} {S it l : Addr} {v : Array Value} {c0 : Nat} {res : Value} (hh : A.handled = none) (hi : s.heap.IsRevIter it l ((v.size : Int) - 1)) (hl : s.heap.IsList l v) (hSi : S ≠ it) (hSl : S ≠ l) (hli : l ≠ it) (hn : v.size ≤ sizeLine)
    (hS : s.heap.get? S = some { cls := .type "list", data := .seq #[] c0 })
    (hR : ∀ (h2 : Heap) (tk c1 : Nat) (got : Array Value), (∀ b o, b ≠ it → b ≠ S → s.heap.get? b = some o → h2.get? b = some o) → h2.get? S = some { cls := .type "list", dict := none, data := .seq got c1, slots := #[] } →
      ItemsOf (fun i x => v[v.size - 1 - i]? = some x) got v.size → R (.ok (.ret res)) { s with heap := h2, toks := tk }) :
    wpAny (model prog w) A.in1 (Builtin.List.listExtendWith (.ref S) (.ref it) res)
      (fun fin s' => match fin with | .done f => R (.ok f) s' | .again c' => c'.quiet = true ∧ codeAny (model prog w) A c' R s') (fun e s' => R (.error e) s') s := by
  have hT : s.TypeIs (.ref it) "list_reverseiterator" := hi.typeIs
  have hf : S ∉ [it, l] := fun z => by
    rcases List.mem_cons.mp z with z | z
    · exact hSi z
    · exact hSl (List.mem_singleton.mp z)
  have same : Builtin.List.listSameRef (.ref S) (.ref it) = false := by simp [Builtin.List.listSameRef, hSi]
  unfold Builtin.List.listExtendWith
  refine wpAny_bind (wpAny_typeOf hT ?_)
  rw [if_neg (by rw [same]; decide)]
  refine wpAny_bind (wpAny_pyIter_revIter hi (wpAny_bind (wpAny_holding ?_)))
  unfold Builtin.List.listLengthHint
  refine wpAny_bind (wpAny_specialOf hT RT.nolen_lri ?_)
  show wpAny _ _ (specialOf (Value.ref it) (Str.ofString "__length_hint__") >>= _) _ _ _
  refine wpAny_bind (wpAny_specialOf hT RT.hint_lri ?_)
  generalize hq : ("list_reverseiterator.__length_hint__" : String) = q
  wp_delta
  rw [show splitId q = some ("list_reverseiterator", "__length_hint__") from by rw [← hq]; decide +kernel]
  rw [← hq]
  refine wpAny_bind (wpAny_isInstance (b := true) hT (by rw [isSubtype_type]; kernel_rfl) (wpAny_pure ?_))
  rw [if_neg (by decide)]
  have z0 : (v.size : Int) - 1 - ((0 : Nat) : Int) = (v.size : Int) - 1 := by omega
  refine wpAny_pure ⟨plainId_quiet F.plain_extend_loop _, ?_⟩
  have W := (Walks.listRev (prog := prog) (w := w) (A := A.in1) hh it l hli v).toS
  refine codeAny_extend_loopS W hn S hf res v.size 0 s #[] c0 rfl (Nat.zero_le _) ⟨Nat.zero_le _, by rw [z0]; exact hi, hl⟩ hS (ItemsOf.nil _) fun t got c1 hm ht hg => ?_
  rw [Moved.eq_with hm]
  refine hR t.heap t.toks c1 got (fun b o b1 b2 hb => hm.heap b o (fun z => ?_) hb) ht hg
  rcases List.mem_cons.mp z with z | z
  · exact b2 z
  · exact b1 (List.mem_singleton.mp z)
theorem initBack {R : Result → Shared → Prop} {S it l : Addr} {v : Array Value} (hh : A.handled = none) (hi : s.heap.IsRevIter it l ((v.size : Int) - 1)) (hl : s.heap.IsList l v) (hSi : S ≠ it) (hSl : S ≠ l) (hli : l ≠ it) (hn : v.size ≤ sizeLine)
    (hS : s.heap.get? S = some { cls := .type "list", data := .seq #[] })
    (hR : ∀ (h2 : Heap) (tk c1 : Nat) (got : Array Value), (∀ b o, b ≠ it → b ≠ S → s.heap.get? b = some o → h2.get? b = some o) → h2.get? S = some { cls := .type "list", dict := none, data := .seq got c1, slots := #[] } →
      ItemsOf (fun i x => v[v.size - 1 - i]? = some x) got v.size → R (.ok (.ret .none)) { s with heap := h2, toks := tk }) :
    wpAny (model prog w) A.in1 (Builtin.«list.__init__» ⟨[.ref S, .ref it], []⟩)
      (fun fin s' => match fin with | .done f => R (.ok f) s' | .again c' => c'.quiet = true ∧ codeAny (model prog w) A c' R s') (fun e s' => R (.error e) s') s := by
  show wpAny _ _ (do let was ← Builtin.List.listItems (.ref S); Builtin.List.listUpdate (.ref S) (fun _ => #[]); letGo was.toList.reverse; Builtin.List.listExtendWith (.ref S) (.ref it) .none) _ _ s
  refine wpAny_bind ?_
  unfold Builtin.List.listItems
  refine wpAny_bind (wpAny_seqItems hS rfl (wpAny_pure ?_))
  show wpAny _ _ (updateSeq S (fun _ => #[]) >>= fun _ => letGo (#[] : Array Value).toList.reverse >>= fun _ => Builtin.List.listExtendWith (.ref S) (.ref it) .none) _ _ s
  have far : ∀ b o, b ≠ S → s.heap.get? b = some o → (s.heap.update S (Obj.mapSeq (fun _ => (#[] : Array Value)))).get? b = some o := fun b o n e => by rw [Heap.get?_update_other _ _ (Ne.symm n)]; exact e
  refine wpAny_bind (wpAny_updateSeq hS rfl (wpAny_bind (wpAny_letGo ?_)))
  have hl2 : (s.heap.update S (Obj.mapSeq (fun _ => (#[] : Array Value)))).IsList l v := by
    obtain ⟨o, ho, r⟩ := hl
    exact ⟨o, far l o (Ne.symm hSl) ho, r⟩
  exact fillBack (s := { s with heap := s.heap.update S (Obj.mapSeq (fun _ => (#[] : Array Value))) }) hh (hi.at fun o e => far it o (Ne.symm hSi) e) hl2 hSi hSl hli hn (Heap.get?_update_self _ hS rfl)
    fun h2 tk c1 got k hg hq => hR h2 tk c1 got (fun b o b1 b2 e => k b o b1 b2 (far b o b2 e)) hg hq
theorem callBack {Q : Value → Shared → Prop} {it l : Addr} {v : Array Value} (hh : A.handled = none) (hi : s.heap.IsRevIter it l ((v.size : Int) - 1)) (hl : s.heap.IsList l v) (hli : l ≠ it) (hn : v.size ≤ sizeLine)
    (hQ : ∀ (h2 : Heap) (tk c1 : Nat) (got : Array Value), (∀ b o, b ≠ it → s.heap.get? b = some o → h2.get? b = some o) → h2.get? s.heap.objs.size = some { cls := .type "list", dict := none, data := .seq got c1, slots := #[] } →
      ItemsOf (fun i x => v[v.size - 1 - i]? = some x) got v.size → Q (.ref s.heap.objs.size) { s with heap := h2, toks := tk }) :
    wpAny (model prog w) A (call (.type "list") [.ref it]) Q E s := by
  refine callType_codes (Q₁ := fun p t => p = .ref s.heap.objs.size ∧ t = { s with heap := s.heap.push { cls := .type "list", data := .seq #[] } }) F.called_list (F.typeCall_list_1 _) F.entry_list_init (code_list_new _ ⟨rfl, rfl⟩) fun p t h => ?_
  obtain ⟨rfl, rfl⟩ := h
  obtain ⟨oi, hoi, _⟩ := id hi
  obtain ⟨ol, hol, _⟩ := id hl
  have hS : (s.heap.push { cls := .type "list", data := .seq #[] }).get? s.heap.objs.size = some { cls := .type "list", data := .seq #[] } := Heap.get?_push_size _ rfl
  refine ⟨⟨_, hS, rfl⟩, F.args_list_init_2 _ _, initBack (A := A.in1) hh (hi.at fun o e => Heap.get?_push_of_some _ e) (hl.push _) (Nat.ne_of_gt (Heap.lt_size hoi)) (Nat.ne_of_gt (Heap.lt_size hol)) hli hn hS fun h2 tk c1 got k hg hq => ?_⟩
  exact ⟨rfl, hQ h2 tk c1 got (fun b o b1 e => k b o b1 (Nat.ne_of_lt (Heap.lt_size e)) (Heap.get?_push_of_some _ e)) hg hq⟩
end
section
variable {X : Cx} {G : Gp} {E : XK}
/-- list(reversed(x)), x a list -/
def tLstRev (K : PySem.W.Frag) (te : TE) : TE := fun σ H Q => te σ H fun v H1 => ∃ (a : Addr) (xs : List V), v = .ref a ∧ SqL K H1 a xs ∧ ∀ q, H1 q = none → Q (.ref q) (upd H1 q (.lst xs.reverse))
theorem pe_listRev {e : Expr} {te : TE} {p p2 pos pos2 : Pos} (hc : X.calm = true) (hg : Gl X "list") (hm : X.mg "list" = none) (hg2 : Gl X "reversed") (hm2 : X.mg "reversed" = none) (he : PE X e te)
    (n1 : starEach [e] X.env = (false, eval e X.env) :: starEach [] X.env := by rfl)
    (n2 : starEach [.Call (.Name "reversed" p2) [e] [] pos2] X.env = (false, eval (.Call (.Name "reversed" p2) [e] [] pos2) X.env) :: starEach [] X.env := by rfl) :
    PE X (.Call (.Name "list" p) [.Call (.Name "reversed" p2) [e] [] pos2] [] pos) (tLstRev X.K te) := by
  refine ⟨fun pins s σ H Q I h => Call_ (ld_blt I hg hm boot_list (PyProof.Rows.callWith_type1 (args_cons (Call_ (ld_blt I hg2 hm2 PyProof.Rows.boot_reversed (PyProof.Rows.callWith_type1 (args_cons (thn (he.run pins s σ H _ I h) fun u t ⟨v, H1, I1, r1, q1⟩ => args_nil ?_) n1) n1 rfl))) n2) n2 rfl))⟩
  obtain ⟨a, xs, rfl, hq, q⟩ := q1
  obtain rfl : u = Value.ref a := r1
  obtain ⟨its, rv, hp, hz⟩ := I1.list hq
  refine call_reversed_list hp.isList (args_nil ?_)
  obtain ⟨o, ho, _⟩ := id hp.isList
  obtain ⟨f0, f1, f2, f3, f4, f5⟩ := I1.fpOk (H' := H1) (b := t.heap.objs.size) (Nat.le_refl _) (I1.hok.fresh (Nat.le_refl _))
  have I2 : Inv X pins σ H1 { t with heap := t.heap.push (revObj a ((its.toArray.size : Int) - 1)) } := I1.kept (t' := t.toks) fun b o e => Heap.get?_push_of_some _ e
  have hn : its.toArray.size ≤ sizeLine := by rw [List.size_toArray, ← rv.length]; exact hz
  have hS0 : (t.heap.push (revObj a ((its.toArray.size : Int) - 1))).objs.size = t.heap.objs.size + 1 := by simp [Heap.push]
  refine callBack (s := { t with heap := t.heap.push (revObj a ((its.toArray.size : Int) - 1)) }) (I1.ok.hd hc) ⟨_, Heap.get?_push_size _ rfl, rfl, rfl⟩ (hp.isList.push _) (Nat.ne_of_lt (Heap.lt_size ho)) hn fun h2 tk c1 got k hS hg => ?_
  obtain ⟨S, hSe⟩ : ∃ S, (t.heap.push (revObj a ((its.toArray.size : Int) - 1))).objs.size = S := ⟨_, rfl⟩
  rw [hSe] at hS0
  have hS : h2.get? S = some { cls := .type "list", dict := none, data := .seq got c1, slots := #[] } := hSe ▸ hS
  have nS : H1 S = none := I1.hok.fresh (show t.heap.objs.size ≤ S by omega)
  obtain ⟨G, g1, g2⟩ := restrict h2 fun b => decide (b ≠ S)
  have I3 : Inv X pins σ H1 { t with heap := G, toks := tk } := I2.turned (t' := tk) (fun b o n e => by
    have lt := Heap.lt_size e
    rw [show ({ t with heap := t.heap.push (revObj a ((its.toArray.size : Int) - 1)) } : Shared).heap.objs.size = S from hSe] at lt
    rw [g1 b (decide_eq_true (Nat.ne_of_lt lt))]
    exact k b o n e) f0 f1 f3 f4 f5
  refine ⟨.ref S, upd H1 S (.lst xs.reverse), I3.laidN (t' := tk) (fun b o e => ?_) (g2 S (by simp)) nS (show ObjOk X.prog X.w _ _ _ (.lst xs.reverse) from ⟨by rw [List.length_reverse]; exact hz, got.toList, c1, RT.vals_rev rv hg, ?_⟩), ?_, q _ nS⟩
  · by_cases n : b = S
    · rw [n, g2 S (by simp)] at e
      cases e
    · rw [g1 b (decide_eq_true n)] at e
      exact e
  · rw [Array.toArray_toList]
    exact hS
  · exact congrArg Value.ref hSe
/-- .. told by data -/
def dLstRev (te : DTE) : DTE := fun XX ρ Q => te XX ρ fun k d => ∃ ds, d = .lst ds ∧ ds.length ≤ 100000 ∧ Q (up k ds.reverse) (.lst ds.reverse)
theorem pd_listRev {e : Expr} {te : DTE} {p p2 pos pos2 : Pos} (hc : X.calm = true) (hg : Gl X "list") (hm : X.mg "list" = none) (hg2 : Gl X "reversed") (hm2 : X.mg "reversed" = none) (he : PE X e (cE G E te))
    (n1 : starEach [e] X.env = (false, eval e X.env) :: starEach [] X.env := by rfl)
    (n2 : starEach [.Call (.Name "reversed" p2) [e] [] pos2] X.env = (false, eval (.Call (.Name "reversed" p2) [e] [] pos2) X.env) :: starEach [] X.env := by rfl) :
    PE X (.Call (.Name "list" p) [.Call (.Name "reversed" p2) [e] [] pos2] [] pos) (cE G E (dLstRev te)) := pe_weak (pe_listRev hc hg hm hg2 hm2 he n1 n2) fun σ H Qv h => by
  obtain ⟨H0, r, γ, ρ, XX, Q, env, q, hx, post⟩ := h
  refine cE_at (Now.start env) q hx fun v k d H1 ⟨ds, hd, hl, q1⟩ e1 N1 r1 => ?_
  subst hd
  obtain ⟨a, xs, rfl, _, h1, h2⟩ := rep_lst r1
  have P1 : Post G H0 r (Mo γ σ ρ) H H1 Q Qv := fun v k d H2 q e hr h => post v k d H2 q (e1.trans e) hr h
  exact ⟨a, xs, rfl, SqL.of h1, fun p hp => P1.newl N1.cxt hp q1 h2.reverse⟩
@[simp] theorem s_dLstRev {te : DTE} {XX : Exn → Prop} {ρ : Rho} {Q : KQ} : dLstRev te XX ρ Q = te XX ρ fun k d => ∃ ds, d = .lst ds ∧ ds.length ≤ 100000 ∧ Q (up k ds.reverse) (.lst ds.reverse) := rfl
end
end HD

set_option Elab.async false
set_option linter.all false
set_option maxRecDepth 100000
set_option maxHeartbeats 1000000
/-! the signs of a text, each once: a dict's keys -/
namespace HD
open PySem PySem.Spec PyProof.Rows L2
/-- slots: 0 text, 1 found, 2 sign -/
def tSetOf (K : PySem.W.Frag) : TS :=
  tSeq (tAsg tDNewK (gName 1)) (tSeq (tFor (iList K (tVar 0)) (gName 2) (sDPut (tVar 1) (tVar 2) (tC (.bl true)))) (tRet (tCB rListD (tCons (tVar 1) tNil))))
def f_set_of : DSp := fun _ ds Q => ∃ t : List Int, ds = [.lst (t.map .int)] ∧ t.length ≤ 1000 ∧ ∀ ns : List Int, ns.Nodup → (∀ k, k ∈ ns ↔ k ∈ t) → Q (.lst (ns.map .int))
def eK (ks : List Int) : List (Key × V) := ks.map fun k => (.inl k, .bl true)
theorem put_eK (ks : List Int) (k : Int) : putK (eK ks) (.inl k) (.bl true) = eK (if k ∈ ks then ks else ks ++ [k]) := by
  unfold putK
  have e : (eK ks).any (fun kv => decide (kv.1 = (.inl k : Key))) = decide (k ∈ ks) := by
    rw [Bool.eq_iff_iff]
    simp [eK]
  rw [e]
  by_cases h : k ∈ ks
  · rw [if_pos (decide_eq_true h), if_pos h]
    unfold eK
    rw [List.map_map]
    apply List.map_congr_left
    intro x _
    simp only [Function.comp_def]
    split <;> rfl
  · rw [if_neg (by simpa using h), if_neg h]
    simp [eK]
section
variable {G : Gp}
theorem setof_ok {E : XK} {vs : List V} {Qv : VK} {N : List Str} {H : Hp} (hN : N.length = 3) (h : spD G f_set_of vs H Qv E) : tSetOf G.K { nx := fun _ H' => Qv .non H', rt := Qv } (L2.start N vs) H := by
  obtain ⟨r, ds, XX, QQ, hr, hd, ⟨t, rfl, hl, hq⟩, hx, post⟩ := h
  obtain ⟨v, rfl, r1⟩ := reps1 hd
  obtain ⟨a, xs, rfl, _, h1, h2⟩ := rep_lst r1
  have h3 : xs = t.map V.int := h2.ints
  subst h3
  have e0 : L2.start N [.ref a] = [some (.ref a), none, none] := by
    unfold L2.start
    rw [hN]
    rfl
  rw [e0]
  intro p hp
  have hpa : a ≠ p := fun z => by rw [z, hp] at h1; cases h1
  have sq : ∀ o, SqL G.K (upd H p o) a (t.map V.int) := fun o => SqL.of (by rw [upd_ne hpa]; exact h1)
  refine ⟨_, rfl, a, rfl, ⟨_, sq _⟩, fun i m σ H' => i ≤ t.length ∧ m = t.length - i ∧ (∃ z, σ = [some (.ref a), some (.ref p), z]) ∧ ∃ ks : List Int, H' = upd H p (.dK (eK ks)) ∧ ks.Nodup ∧ (∀ k, k ∈ ks ↔ k ∈ t.take i) ∧ ks.length ≤ i,
    ⟨t.length, Nat.zero_le _, rfl, ⟨_, rfl⟩, [], rfl, List.nodup_nil, by simp, Nat.zero_le _⟩, fun i m σ H' ⟨hi, hm, ⟨z, hz⟩, ks, hH, hnd, hmem, hkl⟩ => ?_⟩
  subst hz hH
  by_cases he : i = t.length
  · refine .inl ⟨⟨_, sq _, by simp; omega⟩, ?_⟩
    subst he
    rw [List.take_length] at hmem
    refine ⟨_, rfl, p, eK ks, rfl, upd_same, fun q hq2 => ?_⟩
    have s1 : SameR r H (upd H p (.dK (eK ks))) := .new hp
    have r1 := hr.new (o := .dK (eK ks)) hp
    refine post _ _ _ (hq ks hnd hmem) (s1.trans (.new hq2)) (r1.new hq2) ?_
    unfold Rep
    have ek : (eK ks).map (fun kv => kV kv.1) = ks.map V.int := by
      unfold eK
      rw [List.map_map]
      rfl
    rw [ek]
    exact ⟨q, _, rfl, by
      by_cases z : q = p
      · rw [z, upd_same] at hq2; cases hq2
      · rw [upd_ne z] at hq2; exact hq2, upd_same, Reps.of_ints⟩
  · have hlt : i < t.length := by omega
    refine .inr ⟨⟨_, _, sq _, by rw [List.getElem?_map, List.getElem?_eq_getElem hlt]; rfl⟩, fun σ2 H2 => ∃ m', m' < m ∧ _, fun σ2 H2 h => h, fun x H2 ⟨e, hy⟩ => ?_⟩
    subst e
    have := hy _ (sq _)
    rw [List.getElem?_map, List.getElem?_eq_getElem hlt] at this
    cases this
    refine ⟨_, rfl, _, rfl, p, _, rfl, DPut.k (k := .inl t[i]) upd_same (by simp [eK]; have := sizeLine_eq; omega), ?_⟩
    rw [upd_upd, put_eK]
    refine ⟨t.length - (i + 1), by omega, by omega, rfl, ⟨_, rfl⟩, _, rfl, ?_, fun k => ?_, ?_⟩
    · split
      · exact hnd
      · rename_i hk
        rw [List.nodup_append]
        refine ⟨hnd, by simp, fun b hb c hc => ?_⟩
        rw [List.mem_singleton.mp hc]
        exact fun z => hk (z ▸ hb)
    · have ht : k ∈ t.take (i + 1) ↔ (k ∈ t.take i ∨ k = t[i]) := by
        rw [List.take_add_one, List.getElem?_eq_getElem hlt]
        simp only [Option.toList, List.mem_append, List.mem_singleton]
      rw [ht, ← hmem k]
      split
      · rename_i hk
        constructor
        · exact .inl
        · rintro (h | h)
          · exact h
          · rw [h]; exact hk
      · rw [List.mem_append, List.mem_singleton]
    · split
      · omega
      · simp; omega
variable {P : Program} {w : World} {K : PySem.W.Frag} {mg : Str → Option Value} {base : Heap}
theorem fnSetOf {x qual : Str} {st : Stmt} {f : Addr} {fd : FuncData} {N ps : List Str} {k : Nat} (F : Fun K x qual st f fd) (S : FnScope N ps (defScope st)) (hN : N.length = 3) (hp : ps.length = 1) (hK : G.K = K)
    (hb : ∀ (cdv : Value) (A : Around) (outer : List Env) (s : Shared) (H : Hp) (E : XK), Room k (A.deeper (envOfC qual (defScope st) s.heap.objs.size f cdv)) → PSs (cxOf CX0 P w K mg base N qual (defScope st) f cdv A outer s H E).nox (defBody st) (tSetOf K)) : FnOk P w K mg base CX0 (k + 1) f fd ps (spD G f_set_of) := by
  refine F.ok S (fun vs H Q E h => ?_) (fun cdv A outer s H vs Q E hroom h => ?_)
  · obtain ⟨r, ds, XX, QQ, _, h2, ⟨t, rfl, _⟩, _⟩ := h
    rw [h2.length, hp]
    rfl
  · refine ⟨_, hb cdv A outer s H E hroom, ?_⟩
    rw [← hK]
    exact setof_ok hN h
end
section
variable {G : Gp} {X : Cx} {K : PySem.W.Frag}
/-- sorted(e), e a list of ints -/
theorem cd_sorted : CallR X (.builtin "sorted") (cRn G rdSorted) := by
  intro pins s σ H xs us Qv I rs h
  obtain ⟨H0, r, M, Hs, k, ds, Q, c, q, r1, post⟩ := h
  unfold rdSorted at q
  split at q
  · obtain ⟨v, rfl, h⟩ := reps1 r1
    obtain ⟨a, xs, rfl, _, h1, h2⟩ := rep_lst h
    obtain ⟨ns, rfl, q⟩ := q
    rw [h2.ints] at h1
    exact cr_sortedI pins s σ H _ us Qv I rs ⟨a, ns, rfl, SqL.of h1, fun ns' p h3 h4 hp => post.newl c (k := .fr) hp (by simpa using q ns' h3 h4) Reps.of_ints⟩
  · exact q.elim
@[simp] theorem s_sortedL {k : Kd} {ds : List D} {Q : KQ} : rdSorted k [.lst ds] Q = ∃ ns : List Int, ds = ns.map D.int ∧ ∀ ns' : List Int, ns'.Perm ns → ns'.Pairwise (· ≤ ·) → Q .fr (.lst (ns'.map D.int)) := rfl
end
end HD

set_option Elab.async false
set_option linter.all false
set_option maxRecDepth 100000
set_option maxHeartbeats 4000000
/-! sorted(set(tuple of ints)) -/
namespace HD
open PySem PySem.Spec PyProof.Rows L2
section
variable {X : Cx}
def rSetT (w : World) : List V → Hp → VK → Prop := fun vs H Q => ∃ (a : Addr) (ns : List Int), vs = [V.ref a] ∧ H a = some (.tup (ns.map V.int)) ∧ ns.length ≤ 4000 ∧ ∀ p c, H p = none → Q (.ref p) (upd H p (SetO w p (fun j => decide (j ∈ ns)) c))
theorem cr_setT (hc : X.calm = true) : CallR X (.type "set") (rSetT X.w) := by
  intro pins s σ H vs us Q I r h
  obtain ⟨a, ns, rfl, ha, hl, q⟩ := h
  rw [Vals.ref1 r]
  obtain ⟨its, r2, p, hz⟩ := I.tuple (SqT.of ha)
  refine call_set_tupI ns (I.ok.hd hc) (show s.heap.IsTuple a its.toArray from p) (by simpa using ints_of_vals r2) (by unfold scanBound; omega) fun h' tk c R _ k => ?_
  have hn : H s.heap.objs.size = none := I.hok.fresh (Nat.le_refl _)
  exact ⟨.ref _, upd H s.heap.objs.size (SetO X.w s.heap.objs.size (fun j => decide (j ∈ ns)) c), I.laid (t' := tk) k (Nat.le_refl _) (setO_new R), rfl, q _ _ hn⟩
variable {G : Gp} {E : XK} {e : Expr} {da : DTE} {p1 p2 pos q1 : Pos}
def dSortSetT (t : DTE) : DTE := fun XX ρ Q => t XX ρ fun _ d => ∃ ns : List Int, d = .tup (ns.map .int) ∧ ns.length ≤ 4000 ∧ ∀ ns' : List Int, ns'.Pairwise (· < ·) → (∀ k : Int, k ∈ ns' ↔ k ∈ ns) → Q .fr (.lst (ns'.map .int))
theorem pd_sortsetT (hc : X.calm = true) (hg : Gl X "sorted") (hm : X.mg "sorted" = none) (hg2 : Gl X "set") (hm2 : X.mg "set" = none) (ha : PE X e (cE G E da)) (he : starEach [e] X.env = (false, eval e X.env) :: starEach [] X.env := by rfl)
    (he2 : starEach [Expr.Call (.Name "set" p2) [e] [] q1] X.env = (false, eval (.Call (.Name "set" p2) [e] [] q1) X.env) :: starEach [] X.env := by rfl) :
    PE X (.Call (.Name "sorted" p1) [.Call (.Name "set" p2) [e] [] q1] [] pos) (cE G E (dSortSetT da)) := by
  have h1 := pe_callTy (pos := q1) (p := p2) (cr_setT hc) hg2 hm2 bt_set (pa_cons ha pa_nil he) (he := he)
  have h2 := pe_callB (pos := pos) (p := p1) (cr_sortedS hc) hg hm bt_sorted (pa_cons h1 pa_nil he2) (he := he2)
  refine pe_weak h2 fun σ H Qv h => ?_
  obtain ⟨H0, r, γ, ρ, XX, Q, env, q, hx, post⟩ := h
  refine cE_at (Now.start env) q hx fun v k d H1 ⟨ns, hd, hl, q1⟩ e1 N1 r1 => ?_
  subst hd
  obtain ⟨a, xs, rfl, h1, h2⟩ := rep_tup r1
  rw [h2.ints] at h1
  refine ⟨a, ns, rfl, h1, hl, fun p c hp => ?_⟩
  refine ⟨p, _, c, rfl, upd_same, fun ns' p2 hs hmem hp2 => ?_⟩
  have N2 := N1.step (SameR.new (o := SetO X.w p (fun j => decide (j ∈ ns)) c) hp) (N1.row.new hp)
  have N3 := N2.step (SameR.new (o := .lst (ns'.map V.int)) hp2) (N2.row.new hp2)
  refine post _ .fr _ _ (q1 ns' hs fun k => by rw [hmem k, decide_eq_true_eq]) N3.ex N3.row ?_
  unfold Rep
  refine ⟨p2, _, rfl, N2.ex.there _ hp2, upd_same, Reps.of_ints⟩
@[simp] theorem s_dSortSetT {XX ρ Q t} : dSortSetT t XX ρ Q = t XX ρ fun _ d => ∃ ns : List Int, d = .tup (ns.map .int) ∧ ns.length ≤ 4000 ∧ ∀ ns' : List Int, ns'.Pairwise (· < ·) → (∀ k : Int, k ∈ ns' ↔ k ∈ ns) → Q .fr (.lst (ns'.map .int)) := rfl
end
end HD

set_option Elab.async false
set_option linter.all false
set_option maxRecDepth 100000
set_option maxHeartbeats 1000000
/-! readings: signs that no face has -/
namespace HD
open PySem PySem.Spec PyProof.Rows L2
@[simp] theorem s_set_of {XX : Exn → Prop} {t : List Int} {Q : D → Prop} : f_set_of XX [.lst (t.map .int)] Q = (t.length ≤ 1000 ∧ ∀ ns : List Int, ns.Nodup → (∀ k, k ∈ ns ↔ k ∈ t) → Q (.lst (ns.map .int))) := by
  apply propext
  constructor
  · rintro ⟨t', e, h1, h2⟩
    have e2 : t.map D.int = t'.map D.int := by injection e with e; injection e
    rw [mapint_inj] at e2
    subst e2
    exact ⟨h1, h2⟩
  · rintro ⟨h1, h2⟩
    exact ⟨t, rfl, h1, h2⟩
def f_missing : DSp := dsp2 fun a b Q => ∃ (fs : List Face) (t : List Int), a = .obj (fs.map eF) ∧ b = .lst (t.map .int) ∧ fs.length ≤ 1000 ∧ t.length ≤ 1000 ∧ TextOk t ∧
  ∀ ns : List Int, ns.Pairwise (· < ·) → (∀ k, k ∈ ns ↔ k ∈ t ∧ havingL fs [k] = []) → Q (.lst (ns.map .int))
-- missing(case, text): 0 case 1 text 2 sign
@[reducible] def b_missing : DTS :=
  (dSeq (dDrop (dCall f_need_signs2 (dCons (dVar 1) dNil)))
    (dRet (dCB rdSorted (dCons (dLc (diSq (dCall f_set_of (dCons (dVar 1) dNil))) (dgName 2) (dB (dOp rdEq (dMeth f_having (dVar 0) (dCons (dTup (dCons (dVar 2) dNil)) dNil)) (dLst dNil))) (dVar 2) [2]) dNil))))
theorem lt_of_le_nd : ∀ {l : List Int}, l.Pairwise (· ≤ ·) → l.Nodup → l.Pairwise (· < ·)
  | [], _, _ => .nil
  | a :: l, h, n => by
    rw [List.pairwise_cons] at h ⊢
    rw [List.nodup_cons] at n
    exact ⟨fun b hb => by
      have h1 := h.1 b hb
      have h2 : a ≠ b := fun e => n.1 (by rw [e]; exact hb)
      omega, lt_of_le_nd h.2 n.2⟩
@[simp] theorem eqL0 {a : List Nat} : deq (eL a) (.lst []) = decide (a = []) := by unfold eL; simp
@[simp] theorem eqL0' {a : List Nat} : deq (.lst []) (eL a) = decide (a = []) := by unfold eL; simp
theorem rd_missing : Rd 3 f_missing b_missing := by
  rintro XX ds Q ⟨_, _, rfl, fs, t, rfl, rfl, hf, hl, ht, hq⟩
  simp [b_missing, ini]
  refine ⟨_, rfl, t, rfl, hl, ht, ?_⟩
  refine lc_go ?_
  simp
  refine ⟨hl, fun ns nd hm => ?_⟩
  have hnl : ns.length ≤ t.length := nodup_sub nd fun x hx => (hm x).mp hx
  refine lc_fil ns .int (k := .fr) .fr (fun s => decide (havingL fs [s] = [])) .int rfl (fun Qi h => by simpa using h) (by omega) rfl (by decide) (fun s hs K K0 hk h0 => ?_) ?_
  · simp [wipeR]
    refine ⟨_, _, rfl, fs, [s], rfl, rfl, hf, by simp, ?_⟩
    simp
    by_cases c : havingL fs [s] = []
    · exact .inr ⟨c, hk (by simp [c]) _ kf⟩
    · exact .inl ⟨c, h0 (by simp [c])⟩
  · simp
    intro ns' hp hs
    refine hq ns' (lt_of_le_nd hs (hp.nodup_iff.mpr (nd.filter _))) fun k => ?_
    rw [hp.mem_iff, List.mem_filter, hm]
    simp
theorem call_missing {XX : Exn → Prop} {Q : D → Prop} {fs : List Face} {t : List Int} (hf : FacesOk fs) (hl : t.length ≤ 1000) (ht : TextOk t) (h : ∀ ns : List Int, ns.Pairwise (· < ·) → (∀ k, k ∈ ns ↔ k ∈ t ∧ havingL fs [k] = []) → Q (.lst (ns.map .int))) :
    f_missing XX [.obj (fs.map eF), .lst (t.map .int)] Q := ⟨_, _, rfl, fs, t, rfl, rfl, by have := hf.len; omega, hl, ht, h⟩
end HD

set_option Elab.async false
set_option linter.all false
set_option maxRecDepth 100000
set_option maxHeartbeats 1000000
/-! dicts whose keys are ints and None: made, written, closed, read, walked -/
namespace HD
open PySem PySem.Spec PyProof.Rows L2
def kD : Option Int → D
  | none => .non
  | some i => .int i
theorem rep_kD {G : Gp} {r : Option Addr} {P : Addr → Prop} {H : Hp} {k : Option Int} {v : V} (h : Rep G r P H (kD k) v) : v = lkV k := by
  cases k <;> (unfold kD Rep at h; exact h)
theorem kD_rep {G : Gp} {r : Option Addr} {P : Addr → Prop} {H : Hp} {k : Option Int} : Rep G r P H (kD k) (lkV k) := by
  cases k <;> (unfold kD Rep; rfl)
theorem keys_zip {ks : List (Option Int)} {vs : List Value} (h : ks.length = vs.length) : (ks.zip vs).map (·.1) = ks := by
  rw [List.map_fst_zip]
  omega
section
variable {P : Program} {w : World} {h : Heap} {a : Addr} {o : Obj} {ks : List (Option Int)} {xs : List V}
theorem Good.dict (ho : h.get? a = some o) (g : Good o ks xs) : ∃ vs, Vals xs vs ∧ ks.length = vs.length ∧ h.DictOf (optKind P w) a (ks.zip vs) := by
  obtain ⟨es, ep, vs, hx, hd, r, hl, nd, q⟩ := g
  exact ⟨vs, r, q.len.1, o, es, ep, ho, hx, hd, fun e he => q.keys e (by simpa using he), q.pairs, by rw [keys_zip q.len.1]; exact nd⟩
theorem Good.of {vs : List Value} (hl : ks.length = vs.length) (hz : ks.length ≤ sizeLine) (nd : ks.Nodup) (r : Vals xs vs) (d : h.DictOf (optKind P w) a (ks.zip vs)) : ∃ o, h.get? a = some o ∧ Good o ks xs := by
  obtain ⟨o, es, ep, ho, hx, hd, hk, hp, _⟩ := d
  exact ⟨o, ho, es, ep, vs, hx, hd, r, hz, nd, Ents.of hl hp fun e he => hk e (by simpa using he)⟩
theorem dic_new {H : Hp} (hs : (a == sysModules) = false) (g : ∃ o, h.get? a = some o ∧ Good o ks xs) : ObjOk P w H h a (DicO a ks xs) := by
  obtain ⟨o, ho, hg⟩ := g
  exact ⟨⟨hs, o, ho, hg⟩, ⟨o, ho⟩, fun h1 h2 ⟨q1, o1, q2, q3⟩ k => ⟨q1, o1, k o1 q2, q3⟩⟩
theorem dic_get {X : Cx} {pins : List (Addr × Obj)} {σ : L2.St} {H : Hp} {s : Shared} (I : Inv X pins σ H s) (ha : H a = some (DicO a ks xs)) : (a == sysModules) = false ∧ ∃ o, s.heap.get? a = some o ∧ Good o ks xs := (I.hok a _ ha).1
end
theorem stored_new {ks : List (Option Int)} {vs : List Value} {k : Option Int} {v : Value} (hl : ks.length = vs.length) (hk : k ∉ ks) : stored (ks.zip vs) k v = ((ks ++ [k]).zip (vs ++ [v])) := by
  unfold stored
  rw [if_neg, List.zip_append hl]
  · rfl
  · intro h
    obtain ⟨x, hx, e⟩ := List.any_eq_true.mp h
    have e := of_decide_eq_true e
    have q : x.1 ∈ ((ks.zip vs).map (·.1)) := List.mem_map.mpr ⟨x, hx, rfl⟩
    rw [keys_zip hl, e] at q
    exact hk q
section
variable {G : Gp} {E : XK} {H0 H H' Hs : Hp} {r : Option Addr} {M P : Addr → Prop} {X : Cx} {σ : L2.St} {ρ : Rho} {γ : List Gh} {XX : Exn → Prop}
variable {st : Stmt} {x : Str} {i : Nat} {p1 pos : Pos} {e ej : Expr} {te tj da db : DTE}
abbrev o0 : Obj := { cls := .type "dict", data := .dict #[] }
theorem good_nil : Good o0 [] [] := ⟨#[], 0, [], ⟨rfl, rfl, rfl⟩, rfl, .nil, Nat.zero_le _, List.nodup_nil, .nil⟩
theorem big_ne {pins : List (Addr × Obj)} {s : Shared} (I : Inv X pins σ H s) : (s.heap.objs.size == sysModules) = false := beq_eq_false_iff_ne.mpr (Ne.symm (Nat.ne_of_lt I.big))
/-- {}, not to be written -/
theorem pd_dic0 : PE X (.Dict [] [] pos) (cE G E (dC (.dic o0 [] []))) := ⟨fun pins s σ H Qv I h => by
  obtain ⟨H0, r, γ, ρ, XX, Q, env, q, hx, post⟩ := h
  have hn : H s.heap.objs.size = none := I.hok.fresh (Nat.le_refl _)
  refine wpAny_Dict_empty ⟨.ref s.heap.objs.size, upd H s.heap.objs.size (.frz { cls := .type "dict", data := .dict #[] } (DicO s.heap.objs.size [] [])), I.laid (t' := s.toks) (fun _ _ q => Heap.get?_push_of_some _ q) (Nat.le_refl _) ⟨Heap.get?_push_size _ rfl, dic_new (big_ne I) ⟨_, Heap.get?_push_size _ rfl, good_nil⟩⟩, rfl, ?_⟩
  refine post _ .fr _ _ q (.new hn) (env.row.new hn) ?_
  unfold Rep
  exact ⟨_, _, _, rfl, upd_same, big_ne I, ⟨good_nil, fun _ z => nomatch z⟩, .nil⟩⟩
/-- {}, to be written -/
def tDicN : TE := fun _ H Q => ∀ p, H p = none → Q (.ref p) (upd H p (DicO p [] []))
theorem pe_dicN : PE X (.Dict [] [] pos) tDicN := ⟨fun pins s σ H Q I h =>
  wpAny_Dict_empty ⟨.ref s.heap.objs.size, _, I.laid (a := s.heap.objs.size) (o := DicO s.heap.objs.size [] []) (t' := s.toks) (fun _ _ q => Heap.get?_push_of_some _ q) (Nat.le_refl _) (dic_new (big_ne I) ⟨_, Heap.get?_push_size _ rfl, good_nil⟩), rfl, h _ (I.hok.fresh (Nat.le_refl _))⟩⟩
def dDicO (i : Nat) : DTS := fun XX DD ρ => DD.nx (ρ.set i (.od [] []))
theorem psd_dicO {pos' : Pos} (hN : X.N.Nodup) (hi : X.N[i]? = some x) (hx : Loc X.env.scope x) (hs : swapsWith (.Dict [] [] p1) (some (.Name x pos')) pos.line X.env = pure false := by rfl) (hf : X.fn x = true ∨ X.env.scope.names.lookup x = some .local := by first | exact .inl rfl | exact .inr rfl | assumption) :
    PS X (.Assign [.Name x pos'] (.Dict [] [] p1) pos) (cS G E (dDicO i)) := ps_weak (ps_set hN hi hx pe_dicN hs hf) fun D σ H h => by
  obtain ⟨H0, r, γ, ρ, XX, DD, env, q, hx, l⟩ := h
  intro p hp
  exact l.nx _ _ _ (env.setO (s := .od [] []) (.new hp) (env.row.new hp) hp (fun a z => ref_of z) fun M' _ => ⟨p, [], rfl, env.ext.there p hp, upd_same, .nil⟩) q
theorem od_at (env : EnvOk G H0 r γ H σ ρ) {ks : List (Option Int)} {ds : List D} (h1 : ρ[i]? = some (.od ks ds)) : ∃ p xs, σ[i]? = some (some (.ref p)) ∧ H0 p = none ∧ H p = some (DicO p ks xs) ∧ Reps G r (fun _ => False) H ds xs := by
  have il := (List.getElem?_eq_some_iff.mp h1).1
  obtain ⟨u, hu⟩ : ∃ u, σ[i]? = some u := ⟨_, List.getElem?_eq_getElem (by rw [env.len]; exact il)⟩
  obtain ⟨p, xs, rfl, hp0, hp, hc⟩ := env.sl i _ u h1 hu
  exact ⟨p, xs, hu, hp0, hp, hc⟩
/-- x[k] = e, a new key -/
def sDicP (td ty tv : TE) : TS := fun D σ H => tv σ H fun v H1 => td σ H1 fun x H2 => ty σ H2 fun y H3 => ∃ (p : Addr) (ks : List (Option Int)) (xs : List V) (k : Option Int), x = .ref p ∧ y = lkV k ∧ H3 p = some (DicO p ks xs) ∧ k ∉ ks ∧ ks.length < sizeLine ∧ D.nx σ (upd H3 p (DicO p (ks ++ [k]) (xs ++ [v])))
theorem ps_dicP {o i value : Expr} {td ty tv : TE} {pos' : Pos} (ho : PE X o td) (hi : PE X i ty) (hv : PE X value tv) (hs : swapsWith value (some (.Subscript o i pos')) pos.line X.env = pure false) : PS X (.Assign [.Subscript o i pos'] value pos) (sDicP td ty tv) := by
  refine ⟨fun pins s σ H D I h => ?_⟩
  refine wpAny_Assign_Subscript (thn (hv.run pins s σ H _ I h) fun r s1 ⟨v, H1, I1, rv, q1⟩ => thn (ho.run pins s1 σ H1 _ I1 q1) fun u s2 ⟨x, H2, I2, rx, q2⟩ => thn (hi.run pins s2 σ H2 _ I2 q2) fun iv s3 ⟨y, H3, I3, ry, p, ks, xs, k, ex, ey, hp, hk, hl, q3⟩ => ?_) hs
  subst ex ey
  obtain rfl : u = Value.ref p := rx
  obtain ⟨hsm, ob, hob, g⟩ := dic_get I3 hp
  have nd : ks.Nodup := by obtain ⟨_, _, _, _, _, _, _, nd, _⟩ := g; exact nd
  obtain ⟨vs, rvs, hlen, dd⟩ := g.dict (P := X.prog) (w := X.w) hob
  refine wpAny_setItem_pairs (okIs_of ry) dd (fun h' hd' sb => ?_) (by rw [List.length_zip]; omega)
  rw [stored_new hlen hk] at hd'
  have nd2 : (ks ++ [k]).Nodup := by
    rw [List.nodup_append]
    exact ⟨nd, by simp, fun a ha b hb e => hk (by rw [← List.mem_singleton.mp hb, ← e]; exact ha)⟩
  have new := Good.of (xs := xs ++ [v]) (by simp [hlen]) (by simp; omega) nd2 (rvs.append (.cons rv .nil)) hd'
  have he : ∃ u, h'.get? p = some u := let ⟨o, ho, _⟩ := new; ⟨o, ho⟩
  exact ⟨σ, _, I3.write (e := p) (t' := s3.toks + 1) (by rw [hp]; trivial) (.inl rfl) (fun b u hb hu => (sb.2 b hb).trans hu) he (dic_new hsm new), q3⟩
def dDicP (i : Nat) (te tk : DTE) : DTS := fun XX DD ρ => te XX ρ fun _ d => ∃ ks ds, ρ[i]? = some (.od ks ds) ∧ d.flat = true ∧ tk XX ρ fun _ dk => ∃ k, dk = kD k ∧ k ∉ ks ∧ ks.length < 100000 ∧ DD.nx (ρ.set i (.od (ks ++ [k]) (ds ++ [d])))
theorem psd_dicP {pos' : Pos} (hv : PE X (.Name x p1) (tVar i)) (he : PE X e (cE G E te)) (hj : PE X ej (cE G E tj)) (hs : swapsWith e (some (.Subscript (.Name x p1) ej pos')) pos.line X.env = pure false := by rfl) :
    PS X (.Assign [.Subscript (.Name x p1) ej pos'] e pos) (cS G E (dDicP i te tj)) := ps_weak (ps_dicP hv hj he hs) fun D σ H h => by
  obtain ⟨H0, r, γ, ρ, XX, DD, env, q, hx, l⟩ := h
  refine cE_at (Now.start env) q hx fun v k d H1 ⟨ks, ds, h1, hf, q1⟩ e1 N1 r1 => ?_
  obtain ⟨p, xs, hu, hp0, hp, hc⟩ := od_at env h1
  have c1 := N1.cxt
  refine ⟨_, hu, ?_⟩
  refine cE_at N1 q1 hx fun jv k2 dj H2 ⟨key, hj, hk, hl, q2⟩ e2 N2 r2 => ?_
  subst hj
  have hp2 : H2 p = some (DicO p ks xs) := e2.keep _ _ (c1.rne hp0) (e1.keep _ _ (c1.rne hp0) hp)
  refine ⟨p, ks, xs, key, rfl, rep_kD r2, hp2, hk, sz_lt hl, l.nx _ _ _ (N2.now.wrd h1 hu ?_) q2⟩
  exact (Reps.mono env.row N2.ex (fun a q => q.elim) hc).append (.one (Rep.flat d v hf (c1.pers e2 r1)))
/-- an own dict is closed, ahead of a statement -/
def dShut (i : Nat) (t : DTS) : DTS := fun XX DD ρ => ∃ ks ds, ρ[i]? = some (.od ks ds) ∧ ∀ o, t XX DD (ρ.set i (.v true (.dic o ks ds)))
theorem psd_shut (i : Nat) (h : PS X st (cS G E t)) : PS X st (cS G E (dShut i t)) := by
  refine ⟨fun pins s σ H D I hw => ?_⟩
  obtain ⟨H0, r, γ, ρ, XX, DD, env, ⟨ks, ds, h1, q⟩, hx, l⟩ := hw
  obtain ⟨p, xs, hu, hp0, hp, hc⟩ := od_at env h1
  obtain ⟨hsm, ob, hob, g⟩ := dic_get I hp
  obtain ⟨od, I1⟩ := I.lock hp trivial
  obtain ⟨hod, _⟩ := I1.hok p _ upd_same
  rw [hob] at hod
  cases hod
  exact h.run pins s σ _ D I1 (cS_at (env.shut h1 hu hsm g (fun _ z => nomatch z) hc) (q _) hx l)
/-- d[k] -/
def dAt (ks : List (Option Int)) (ds : List D) (k : Option Int) : Option D := ((ks.zip ds).find? fun q => decide (q.1 = k)).map (·.2)
def rdIxK : DR2 := fun k1 d1 _ d2 Q => match d1 with
  | .dic _ ks ds => ∃ k d, d2 = kD k ∧ dAt ks ds k = some d ∧ Q k1 d
  | _ => False
theorem rep_dic {v : V} {o : Obj} {ks : List (Option Int)} {ds : List D} (h : Rep G r P H (.dic o ks ds) v) : ∃ a u xs, v = .ref a ∧ H a = some (.frz o u) ∧ (a == sysModules) = false ∧ Good o ks xs ∧ Reps G r P H ds xs := by
  unfold Rep at h
  obtain ⟨a, u, xs, h1, h2, h3, h4, h5⟩ := h
  exact ⟨a, u, xs, h1, h2, h3, h4.1, h5⟩
theorem dAt_val : ∀ {ks : List (Option Int)} {ds : List D} {xs : List V} {vs : List Value} {k : Option Int} {d : D}, ks.length = vs.length → Vals xs vs → Reps G r P H ds xs → dAt ks ds k = some d → ∃ x u, Rep G r P H d x ∧ RelV x u ∧ valueAt (ks.zip vs) k = some u
  | [], _, _, _, _, _, _, _, _, e => by simp [dAt] at e
  | k' :: ks, [], _, _, _, _, _, _, _, e => by simp [dAt] at e
  | k' :: ks, d' :: ds, xs, vs, k, d, hl, rv, rd, e => by
    unfold Reps at rd
    obtain ⟨x, ys, rfl, r1, r2⟩ := rd
    cases rv with
    | cons ra rb =>
      rename_i u us
      by_cases hk : k' = k
      · subst hk
        refine ⟨x, u, ?_, ra, ?_⟩
        · simp [dAt] at e
          rw [← e]; exact r1
        · simp [valueAt]
      · have e2 : dAt ks ds k = some d := by
          unfold dAt at e ⊢
          rw [List.zip_cons_cons, List.find?_cons_of_neg (by simpa using hk)] at e
          exact e
        obtain ⟨x2, u2, q1, q2, q3⟩ := dAt_val (Nat.succ.inj hl) rb r2 e2
        refine ⟨x2, u2, q1, q2, ?_⟩
        unfold valueAt at q3 ⊢
        rw [List.zip_cons_cons, List.find?_cons_of_neg (by simpa using hk)]
        exact q3
theorem ixdK : IxR X (cR2 G rdIxK) := by
  intro value slice pins s σ H x y v u Qv I rx ry h hs
  obtain ⟨H0, r, M, Hs, k1, d1, k2, d2, Q, c, q, r1, r2, post⟩ := h
  unfold rdIxK at q
  split at q
  · rename_i o ks ds
    obtain ⟨a, uu, xs, rfl, h1, hsm, g, h2⟩ := rep_dic r1
    obtain ⟨k, d, rfl, e, q⟩ := q
    rw [rep_kD r2] at ry
    cases rx
    obtain ⟨ho, _⟩ := I.hok a _ h1
    obtain ⟨vs, rvs, hlen, dd⟩ := g.dict (P := X.prog) (w := X.w) ho
    obtain ⟨z, uz, rz, ruz, hv⟩ := dAt_val hlen rvs h2 e
    exact subscriptTail_builtinR (x := uz) dd.typeIs PySem.F.slot_dict_getitem.lookup (wpAny_getItem_of (Q := fun r s' => r = uz ∧ EP X pins σ Qv r s') (okIs_of ry) dd.mapOf hv ⟨rfl, z, H, I.tok _, ruz, post.old c q rz⟩) hs
  · exact q.elim
theorem pd_ixK {a b : Expr} (ha : PE X a (cE G E da)) (hb : PE X b (cE G E db)) (hs : PlainIx b := by intro _ _; rfl) : PE X (.Subscript a b pos) (cE G E (dOp rdIxK da db)) :=
  pe_weak (pe_ix ixdK ha hb hs) fun _ _ _ h => cE_op h
/-- d == {} -/
def rdEqE : DR2 := fun _ d1 _ d2 Q => match d1, d2 with
  | .dic _ ks _, .dic _ [] _ => Q .fr (.bl ks.isEmpty)
  | _, _ => False
theorem od_eqE (hu : X.A.units + 64 < cLine) : OpR X (compareOp .Eq) (cR2 G rdEqE) := by
  intro pins s σ H x y v u Qv I rx ry h
  obtain ⟨H0, r, M, Hs, k1, d1, k2, d2, Q, c, q, r1, r2, post⟩ := h
  unfold rdEqE at q
  split at q
  · rename_i o ks ds o' ds'
    obtain ⟨a, u1, xs, rfl, h1, hsm, g, h2⟩ := rep_dic r1
    obtain ⟨b, u2, ys, rfl, h3, hsm2, g2, h4⟩ := rep_dic r2
    cases rx
    cases ry
    obtain ⟨ho, _⟩ := I.hok a _ h1
    obtain ⟨ho2, _⟩ := I.hok b _ h3
    obtain ⟨vs, rvs, hlen, dd⟩ := g.dict (P := X.prog) (w := X.w) ho
    obtain ⟨vs2, rvs2, hlen2, dd2⟩ := g2.dict (P := X.prog) (w := X.w) ho2
    refine PySem.W.rcP_dicts (knd := optKind X.prog X.w) (r := true) hsm hsm2 dd dd2 (by omega) (fun e => ?_) X.xe _ ⟨.bl ks.isEmpty, H, I, ?_, post.old c q rep_bl⟩
    · have e2 : (ks.zip vs) = [] := List.eq_nil_of_length_eq_zero (by rw [e]; rfl)
      rw [e2]
      exact .nil
    · have e1 : (ks.zip vs).length = ks.length := by rw [List.length_zip, hlen]; omega
      show _ = Value.bool ks.isEmpty
      rw [e1]
      cases ks <;> rfl
  · exact q.elim
/-- for k in d -/
def Itx (a : Addr) (o : Obj) (ks : List (Option Int)) : It :=
  ⟨fun i H => (∃ u, H a = some (.frz o u)) ∧ i < ks.length, fun i H x H' => H' = H ∧ ∃ k, ks[i]? = some k ∧ x = lkV k, fun i H => (∃ u, H a = some (.frz o u)) ∧ ks.length ≤ i⟩
theorem ents_at : ∀ {es : List DictEntry} {ks : List (Option Int)} {vs : List Value} {i : Nat} {k : Option Int}, Ents ks vs es → ks[i]? = some k → ∃ e, es[i]? = some e ∧ okIs k e.key = true
  | _, _, _, i, _, .nil, e => by simp at e
  | _, _, _, 0, _, .cons a h, e => by simp at e; subst e; exact ⟨_, rfl, a.1⟩
  | _, _, _, i + 1, _, .cons a h, e => by
    obtain ⟨e2, q1, q2⟩ := ents_at h (i := i) (by simpa using e)
    exact ⟨e2, by simpa using q1, q2⟩
theorem turn_dic {P : Program} {w : World} {K : PySem.W.Frag} {tg : Expr} {d : Addr} {o : Obj} {ks : List (Option Int)} {vs : List Value} {es : Array DictEntry} {ep : Nat} (it : Addr) (hs : (d == sysModules) = false) (hx : o.ExactDict) (hod : o.data = .dict es ep) (q : Ents ks vs es.toList) :
    Turn P w K tg (Itx d o ks) [it] it (fun i h => h.IsKeyIter it d i ks.length ep) where
  mem := by simp
  obj := fun i h st b hb => by
    have e : b = it := by simpa using hb
    subst e
    obtain ⟨oi, e, c, dd⟩ := st
    exact ⟨oi, e, fun v z => by rw [dd] at z; cases z⟩
  keep := fun i h h' st k => st.at fun oi e => k it (by simp) oi e
  item := by
    intro X hP hw hK hc i pins s σ H E I hf st hg
    subst hP hw hK
    obtain ⟨⟨u, hd⟩, hi⟩ := hg
    obtain ⟨f0, f1, f2, f3, f4, f5⟩ := hf it (by simp)
    obtain ⟨hgd, _⟩ := I.hok d _ hd
    obtain ⟨k, hk⟩ : ∃ k, ks[i]? = some k := ⟨ks[i], List.getElem?_eq_getElem hi⟩
    obtain ⟨en, hen, hkey⟩ := ents_at q hk
    have hsz : es.size = ks.length := by rw [← Array.length_toList, q.len.2, q.len.1]
    refine next_key_item st hgd hod hsz (by simpa using hen) fun h' st' sb => ?_
    have I1 : Inv X pins σ H { s with heap := h' } := I.turned (t' := s.toks) (fun b ob hb e => (sb.2 b hb).trans e) f0 f1 f3 f4 f5
    obtain ⟨oi, e, c, dd⟩ := id st'
    exact ⟨en.key, rfl, go_of (s := { s with heap := h' }) e c dd (by decide) ⟨lkV k, H, I1, okIs_rel hkey, ⟨rfl, k, hk, rfl⟩, st', fun b hb => (hf b hb).1⟩⟩
  done := by
    intro X hP hw hK hc i pins s σ H E I hf st hg
    subst hP hw hK
    obtain ⟨⟨u, hd⟩, hi⟩ := hg
    obtain ⟨f0, f1, f2, f3, f4, f5⟩ := hf it (by simp)
    obtain ⟨hgd, _⟩ := I.hok d _ hd
    have hsz : es.size = ks.length := by rw [← Array.length_toList, q.len.2, q.len.1]
    exact next_key_end (I.ok.hd hc) st hgd hod hsz hi fun h' eb => ⟨rfl, I.turned (t' := s.toks) (fun b ob hb e => eb b ob hb e) f0 f1 f3 f4 f5⟩
  self := fun A i s Q E st h => wpAny_pyIter_keyiter st h
theorem walk_dic {a : Addr} {o : Obj} {ks : List (Option Int)} {ds : List D} : WalkD G r (Itx a o ks) [.dic o ks ds] [.ref a] (ks.map kD) := fun P H hP hr h i => by
  obtain ⟨v, e, rd⟩ := reps1 h
  cases e
  obtain ⟨b, u, xs, e, h1, _⟩ := rep_dic rd
  cases e
  refine ⟨fun d hd => ?_, fun hi => ⟨⟨u, h1⟩, by simpa using hi⟩⟩
  rw [List.getElem?_map] at hd
  obtain ⟨k, hk, rfl⟩ := Option.map_eq_some_iff.mp hd
  refine ⟨⟨⟨u, h1⟩, (List.getElem?_eq_some_iff.mp hk).1⟩, fun x H' ⟨e, k', hk', hx⟩ => ?_⟩
  rw [hk] at hk'
  cases hk'
  rw [e, hx]
  exact ⟨.refl, hr, kD_rep⟩
def diKey (te : DTE) : DTI := fun XX ρ Q => te XX ρ fun k d => ∃ o ks ds, d = .dic o ks ds ∧ Q k (ks.map kD)
theorem pid_key {tg : Expr} (he : PE X e (cE G E te)) : PI X tg e (cI G E (diKey te)) := by
  refine ⟨fun pins s σ H R I h => ?_⟩
  obtain ⟨H0, r, γ, ρ, XX, Q, env, q, hx, post⟩ := h
  have h' : cE G E te σ H (fun v H1 => ∃ o k ks ds, Q k (ks.map kD) ∧ SameR r H H1 ∧ RowOk G.K r H1 ∧ Rep G r (k.P H0 r (Mo γ σ ρ) H) H1 (.dic o ks ds) v) :=
    cE_at (Now.start env) q hx fun v k d H1 ⟨o, ks, ds, h1, h2⟩ e1 N1 r1 => ⟨o, k, ks, ds, h2, e1, N1.row, by rw [← h1]; exact r1⟩
  refine thn (he.run pins s σ H _ I h') fun v s1 ⟨x, H1, I1, rv, o, k, ks, ds, h2, e1, hr, rd⟩ => ?_
  have c := env.cxt
  obtain ⟨a, u, xs, rfl, h3, hsm, g, h4⟩ := rep_dic rd
  cases rv
  obtain ⟨hgd, _⟩ := I1.hok a _ h3
  obtain ⟨es, ep, vs, hxd, hod, rvs, hl, nd, q2⟩ := id g
  have hsz : es.size = ks.length := by rw [← Array.length_toList, q2.len.2, q2.len.1]
  refine iter_keys hsm hgd hxd hod (pi_one (tk := s1.toks) I1 _ (turn_dic (tg := tg) _ hsm hxd hod q2) ⟨_, Heap.get?_push_size _ rfl, rfl, ?_⟩ (post _ k [.dic o ks ds] [.ref a] _ H1 h2 e1 hr (.one rd) walk_dic))
  rw [hsz] <;> rfl
end
end HD

set_option Elab.async false
set_option linter.all false
set_option maxRecDepth 100000
set_option maxHeartbeats 1000000
/-! dicts whose keys are pairs of ints, their values ints and None; a list's index; pop into append -/
namespace HD
open PySem PySem.Spec PyProof.Rows L2
abbrev TK := List ((Int × Int) × Option Int)
def kT (k : Int × Int) : List Key := [.inl k.1, .inl k.2]
theorem kT_inj {a b : Int × Int} (h : kT a = kT b) : a = b := by
  obtain ⟨a1, a2⟩ := a
  obtain ⟨b1, b2⟩ := b
  unfold kT at h
  simp at h
  rw [h.1, h.2]
def encT (m : TK) : List (List Key × V) := m.map fun q => (kT q.1, lkV q.2)
def putT {β : Type} (m : List ((Int × Int) × β)) (k : Int × Int) (v : β) : List ((Int × Int) × β) := if (m.any fun q => decide (q.1 = k)) = true then m.map (fun q => if q.1 = k then (q.1, v) else q) else m ++ [(k, v)]
def getT {β : Type} (m : List ((Int × Int) × β)) (k : Int × Int) : Option β := (m.find? fun q => decide (q.1 = k)).map (·.2)
theorem putT_map {β γ : Type} (f : β → γ) (m : List ((Int × Int) × β)) (k : Int × Int) (v : β) : (putT m k v).map (fun q => (q.1, f q.2)) = putT (m.map fun q => (q.1, f q.2)) k (f v) := by
  unfold putT
  rw [List.any_map]
  have e : ((fun q : (Int × Int) × γ => decide (q.1 = k)) ∘ fun q : (Int × Int) × β => (q.1, f q.2)) = fun q => decide (q.1 = k) := rfl
  rw [e]
  split
  · rw [List.map_map, List.map_map]
    apply List.map_congr_left
    intro q _
    show (((if q.1 = k then (q.1, v) else q) : (Int × Int) × β).1, f (if q.1 = k then (q.1, v) else q).2) = if q.1 = k then (q.1, f v) else (q.1, f q.2)
    split <;> rfl
  · simp
theorem getT_map {β γ : Type} (f : β → γ) (m : List ((Int × Int) × β)) (k : Int × Int) : getT (m.map fun q => (q.1, f q.2)) k = (getT m k).map f := by
  unfold getT
  rw [List.find?_map]
  have e : ((fun q : (Int × Int) × γ => decide (q.1 = k)) ∘ fun q : (Int × Int) × β => (q.1, f q.2)) = fun q => decide (q.1 = k) := rfl
  rw [e]
  cases m.find? fun q => decide (q.1 = k) <;> rfl
theorem any_encT (m : TK) (k : Int × Int) : ((encT m).any fun q => decide (q.1 = kT k)) = m.any fun q => decide (q.1 = k) := by
  unfold encT
  rw [List.any_map]
  congr 1
  funext q
  show decide (kT q.1 = kT k) = decide (q.1 = k)
  by_cases e : q.1 = k
  · rw [e]; simp
  · rw [decide_eq_false e, decide_eq_false fun z => e (kT_inj z)]
theorem put_encT (m : TK) (k : Int × Int) (v : Option Int) : putK (encT m) (kT k) (lkV v) = encT (putT m k v) := by
  unfold putK putT
  rw [any_encT]
  split
  · unfold encT
    rw [List.map_map, List.map_map]
    apply List.map_congr_left
    intro q _
    show (if kT q.1 = kT k then (kT q.1, lkV v) else (kT q.1, lkV q.2)) = _
    by_cases e : q.1 = k
    · simp [e]
    · rw [if_neg fun z => e (kT_inj z)]
      simp [e]
  · unfold encT
    simp
theorem get_encT (m : TK) (k : Int × Int) : valV (encT m) (kT k) = (getT m k).map lkV := by
  induction m with
  | nil => rfl
  | cons q m ih =>
    unfold valV getT encT at ih ⊢
    rw [List.map_cons]
    by_cases e : q.1 = k
    · rw [List.find?_cons_of_pos (by simp [e]), List.find?_cons_of_pos (by simp [e])]
      rfl
    · rw [List.find?_cons_of_neg (by simpa using fun z => e (kT_inj z)), List.find?_cons_of_neg (by simp [e])]
      exact ih
section
variable {G : Gp} {E : XK} {H0 H H' Hs : Hp} {r : Option Addr} {M P : Addr → Prop} {X : Cx} {σ : L2.St} {ρ : Rho} {γ : List Gh} {XX : Exn → Prop}
variable {st : Stmt} {x y : Str} {i j : Nat} {p1 p2 pos apos cpos a2 c2 : Pos} {e ej : Expr} {te tj da : DTE}
def pD (k : Int × Int) : D := .tup [.int k.1, .int k.2]
theorem rep_pD {k : Int × Int} {v : V} (h : Rep G r P H (pD k) v) : ∃ b, v = .ref b ∧ H b = some (.tup ((kT k).map kV)) := by
  obtain ⟨a, xs, rfl, h1, h2⟩ := rep_tup h
  obtain ⟨v, w, rfl, q1, q2⟩ := reps2 h2
  rw [rep_i q1, rep_i q2] at h1
  exact ⟨a, rfl, h1⟩
def dTupO (i : Nat) : DTS := fun XX DD ρ => DD.nx (ρ.set i (.ho (.dT (encT []))))
theorem psd_tupO {pos' : Pos} (hN : X.N.Nodup) (hi : X.N[i]? = some x) (hx : Loc X.env.scope x) (hs : swapsWith (.Dict [] [] p1) (some (.Name x pos')) pos.line X.env = pure false := by rfl) (hf : X.fn x = true ∨ X.env.scope.names.lookup x = some .local := by first | exact .inl rfl | exact .inr rfl | assumption) :
    PS X (.Assign [.Name x pos'] (.Dict [] [] p1) pos) (cS G E (dTupO i)) := ps_weak (ps_set hN hi hx pe_dnewT hs hf) fun D σ H h => by
  obtain ⟨H0, r, γ, ρ, XX, DD, env, q, hx, l⟩ := h
  intro p hp
  exact l.nx _ _ _ (env.seth (.new hp) (env.row.new hp) hp upd_same trivial) q
theorem ho_at (env : EnvOk G H0 r γ H σ ρ) {o : HO} (h1 : ρ[i]? = some (.ho o)) : ∃ p, σ[i]? = some (some (.ref p)) ∧ H0 p = none ∧ H p = some o := by
  have il := (List.getElem?_eq_some_iff.mp h1).1
  obtain ⟨u, hu⟩ : ∃ u, σ[i]? = some u := ⟨_, List.getElem?_eq_getElem (by rw [env.len]; exact il)⟩
  obtain ⟨p, rfl, hp0, hp, _⟩ := env.sl i _ u h1 hu
  exact ⟨p, hu, hp0, hp⟩
def dTupP (i : Nat) (te tk : DTE) : DTS := fun XX DD ρ => ∃ m, ρ[i]? = some (.ho (.dT (encT m))) ∧ m.length < 100000 ∧ te XX ρ fun _ d => ∃ v, d = kD v ∧ tk XX ρ fun _ dk => ∃ k, dk = pD k ∧ DD.nx (ρ.set i (.ho (.dT (encT (putT m k v)))))
theorem psd_tupP {pos' : Pos} (hu : X.A.units + 1 < cLine) (hv : PE X (.Name x p1) (tVar i)) (he : PE X e (cE G E te)) (hj : PE X ej (cE G E tj)) (hs : swapsWith e (some (.Subscript (.Name x p1) ej pos')) pos.line X.env = pure false := by rfl) :
    PS X (.Assign [.Subscript (.Name x p1) ej pos'] e pos) (cS G E (dTupP i te tj)) := ps_weak (ps_dput hu hv hj he hs) fun D σ H h => by
  obtain ⟨H0, r, γ, ρ, XX, DD, env, ⟨m, ho, hl, q⟩, hx, l⟩ := h
  obtain ⟨p, hu, hp0, hp⟩ := ho_at env ho
  refine cE_at (Now.start env) q hx fun v k d H1 ⟨w, h1, q1⟩ e1 N1 r1 => ?_
  subst h1
  have c1 := N1.cxt
  refine ⟨_, hu, ?_⟩
  refine cE_at N1 q1 hx fun jv k2 dj H2 ⟨key, hj, q2⟩ e2 N2 r2 => ?_
  subst hj
  obtain ⟨b, rfl, hb⟩ := rep_pD r2
  have hp2 : H2 p = some (.dT (encT m)) := e2.keep _ _ (c1.rne hp0) (e1.keep _ _ (c1.rne hp0) hp)
  have hv := rep_kD r1
  subst hv
  refine ⟨p, _, rfl, DPut.t hp2 hb (by unfold encT; rw [List.length_map]; exact sz_lt hl), l.nx _ _ _ (N2.now.wrh ho hu (o' := .dT (encT (putT m key w))) trivial) q2 |> fun z => ?_⟩
  rw [put_encT]
  exact z
/-- d.get(k) -/
def dTupG (i : Nat) (te : DTE) : DTE := fun XX ρ Q => ∃ m, ρ[i]? = some (.ho (.dT (encT m))) ∧ te XX ρ fun _ dk => ∃ k, dk = pD k ∧ Q .fr (kD ((getT m k).getD none))
theorem pd_tupG (hu : X.A.units + 1 < cLine) (hv : PE X (.Name x p1) (tVar i)) (he : PE X e (cE G E te)) (m : M1 X (.Name x p1) "get" apos e cpos := by exact ⟨rfl, rfl, rfl, rfl⟩) :
    PE X (.Call (.Attribute (.Name x p1) "get" apos) [e] [] cpos) (cE G E (dTupG i te)) := pe_weak (pe_dget1 hu hv he m) fun σ H Qv h => by
  obtain ⟨H0, r, γ, ρ, XX, Q, env, ⟨m, ho, q⟩, hx, post⟩ := h
  obtain ⟨p, hu, hp0, hp⟩ := ho_at env ho
  refine ⟨_, hu, p, rfl, .inr ⟨_, .inl hp⟩, ?_⟩
  refine cE_at (Now.start env) q hx fun jv k2 dj H2 ⟨key, hj, q2⟩ e2 N2 r2 => ?_
  subst hj
  obtain ⟨b, rfl, hb⟩ := rep_pD r2
  have hp2 : H2 p = some (.dT (encT m)) := e2.keep _ _ (env.cxt.rne hp0) hp
  refine ⟨_, DGet.t hp2 hb, post _ .fr _ _ q2 N2.ex N2.row ?_⟩
  rw [get_encT]
  cases getT m key with
  | none => exact kD_rep (k := none)
  | some v => exact kD_rep (k := v)
/-- an argument that is flat takes the kind of the others -/
def dConsF (da : DTE) (dr : DTA) : DTA := fun XX ρ Q => da XX ρ fun _ d => d.flat = true ∧ dr XX ρ fun k' ds => Q k' (d :: ds)
theorem pad_consF {e : Expr} {es : List Expr} {dr : DTA} (ha : PE X e (cE G E da)) (hr : PA X es (cA G E dr)) (hs : starEach (e :: es) X.env = (false, eval e X.env) :: starEach es X.env := by rfl) : PA X (e :: es) (cA G E (dConsF da dr)) := pa_weak (pa_cons ha hr hs) fun σ H Qv h => by
  obtain ⟨H0, r, γ, ρ, XX, Q, env, q, hx, post⟩ := h
  refine cE_at (Now.start env) q hx fun v k d H1 ⟨hf, q1⟩ e1 N1 r1 => ?_
  refine cA_at N1 q1 hx fun vs k' ds H2 q2 e2 N2 r2 => ?_
  exact post _ _ _ _ q2 N2.ex N2.row (.cons (Rep.flat _ _ hf (N1.cxt.pers e2 r1)) r2)
@[simp] theorem s_dConsF {da : DTE} {dr : DTA} {XX : Exn → Prop} {ρ : Rho} {Qa : Kd → List D → Prop} : dConsF da dr XX ρ Qa = da XX ρ fun _ d => d.flat = true ∧ dr XX ρ fun k' ds => Qa k' (d :: ds) := rfl
/-- x.append(y.pop(e)) -/
def dAppPop (i j : Nat) (te : DTE) : DTS := fun XX DD ρ => ∃ n ds m es, i ≠ j ∧ ρ[i]? = some (.own n ds) ∧ ρ[j]? = some (.own m es) ∧ ds.length < 100000 ∧ es.length ≤ 100000 ∧ te XX ρ fun _ dk => ∃ (k : Nat) (hk : k < es.length), dk = .int k ∧
  DD.nx ((ρ.set j (.own m (es.eraseIdx k))).set i (.own (n && m) (ds ++ [es[k]])))
theorem psd_appPop {e : Expr} {a2 c2 : Pos} (hv : PE X (.Name x p1) (tVar i)) (hw : PE X (.Name y p2) (tVar j)) (he : PE X e (cE G E te))
    (hbase : attributeBase (.Name x p1) "append" X.env (eval (.Name x p1) X.env) = eval (.Name x p1) X.env := by rfl)
    (hfew : ((backTo cpos (starEach (Expr.Call (.Attribute (.Name y p2) "pop" a2) [e] [] c2 :: []) X.env)).all (fun x => !x.1) && (backToKw cpos (keywordEach [] X.env)).all (fun x => x.1.isSome)
      && decide ((Expr.Call (.Attribute (.Name y p2) "pop" a2) [e] [] c2 :: []).length + ([] : List Keyword).length + (if ([] : List Keyword).isEmpty then 0 else 1) < 30)) = true := by rfl)
    (hline : (apos.endLine == cpos.line) = true := by rfl) (hs : starEach (Expr.Call (.Attribute (.Name y p2) "pop" a2) [e] [] c2 :: []) X.env = (false, eval (Expr.Call (.Attribute (.Name y p2) "pop" a2) [e] [] c2) X.env) :: starEach [] X.env := by rfl) (hplain : (backTo cpos (starEach [] X.env)).any (·.1) = false := by rfl)
    (hs2 : swapsWith (.Call (.Attribute (.Name x p1) "append" apos) [Expr.Call (.Attribute (.Name y p2) "pop" a2) [e] [] c2] [] cpos) none pos.line X.env = pure false := by rfl)
    (hbase' : attributeBase (.Name y p2) "pop" X.env (eval (.Name y p2) X.env) = eval (.Name y p2) X.env := by rfl)
    (hfew' : ((backTo c2 (starEach (e :: []) X.env)).all (fun x => !x.1) && (backToKw c2 (keywordEach [] X.env)).all (fun x => x.1.isSome)
      && decide ((e :: []).length + ([] : List Keyword).length + (if ([] : List Keyword).isEmpty then 0 else 1) < 30)) = true := by rfl)
    (hline' : (a2.endLine == c2.line) = true := by rfl) (hs' : starEach (e :: []) X.env = (false, eval e X.env) :: starEach [] X.env := by rfl) (hplain' : (backTo c2 (starEach [] X.env)).any (·.1) = false := by rfl) :
    PS X (.Expr (.Call (.Attribute (.Name x p1) "append" apos) [Expr.Call (.Attribute (.Name y p2) "pop" a2) [e] [] c2] [] cpos) pos) (cS G E (dAppPop i j te)) :=
  ps_weak (ps_expr (pe_bm PySem.F.plainAttrs_list PySem.F.slot_list_append PySem.F.type_list_append mt_append hv
    (pa_cons (pe_bm PySem.F.plainAttrs_list PySem.F.slot_list_pop PySem.F.type_list_pop mt_popAt hw (pa_cons he pa_nil hs') hbase' hfew' hline' hs' hplain') pa_nil hs) hbase hfew hline hs hplain) hs2) fun D σ H h => by
  obtain ⟨H0, r, γ, ρ, XX, DD, env, ⟨n, ds, m, es, hij, h1, h2, hl, hl2, q⟩, hx, l⟩ := h
  obtain ⟨p, xs, hu, hp0, hp, hc⟩ := own_at env h1
  obtain ⟨p', ys, hu', hp0', hp', hc'⟩ := own_at env h2
  have hne : p ≠ p' := fun z => (env.ap i j _ _ _ _ p h1 h2 hu hu' rfl (by rw [z]; rfl)).elim hij fun q => q.2 rfl
  refine ⟨_, hu, .inl ⟨rfl, _, SqL.of hp⟩, ?_⟩
  refine ⟨_, hu', .inl ⟨rfl, _, SqL.of hp'⟩, ?_⟩
  refine cE_at (Now.start env) q hx fun v k d H1 ⟨k0, hk, hd, q1⟩ e1 N1 r1 => ?_
  subst hd
  cases rep_i r1
  have c1 := N1.cxt
  have hp1 : H1 p = some (.lst xs) := e1.keep _ _ (c1.rne hp0) hp
  have hp1' : H1 p' = some (.lst ys) := e1.keep _ _ (c1.rne hp0') hp'
  have hky : k0 < ys.length := by rw [hc'.length]; exact hk
  have hcy : Reps G r ((nk m).P H0 r (Mo γ σ ρ) H1) H1 es ys := Reps.mono env.row e1 (fun a q => ⟨nk_ne c1 q, nk_sub q⟩) hc'
  have E1 := N1.now.wr h2 hu' (hcy.erase k0)
  refine ⟨p', ys, _, k0, ys[k0], rfl, rfl, hp1', by omega, by omega, ?_, List.getElem?_eq_getElem hky, ?_⟩
  · unfold seqIndex?
    simp [hky]
    try omega
  have h1' : (ρ.set j (.own m (es.eraseIdx k0)))[i]? = some (.own n ds) := by rw [List.getElem?_set_ne (Ne.symm hij)]; exact h1
  obtain ⟨p3, xs3, hu3, _, hp3, hc3⟩ := own_at E1 h1'
  rw [hu] at hu3
  cases hu3
  rw [upd_ne hne, hp1] at hp3
  cases hp3
  refine ⟨p, xs, ys[k0], rfl, rfl, by rw [upd_ne hne]; exact hp1, sz_lt (by rw [hc.length]; exact hl), l.nx _ _ _ (E1.wr h1' hu ?_) q1⟩
  obtain ⟨d0, hd0, hr0⟩ := hcy.get' (List.getElem?_eq_getElem hky)
  rw [List.getElem?_eq_getElem hk] at hd0
  cases hd0
  have mo : Mo γ σ ρ p' := own_mo h2 rfl hu'
  refine (hc3.imp fun a q => nk_and q).append (.one ?_)
  refine Rep.keep (H := H1) (H' := upd H1 p' (.lst (ys.eraseIdx k0))) (S := fun a => a = p') (fun a z => ⟨.lst ys, by rw [z]; exact hp1', trivial⟩) (fun b u n q => by rw [upd_ne n]; exact q) (fun a q => ⟨fun z => ?_, nk_and' (H := H1) (P_sub (H2 := H1) (M' := Mo γ σ (ρ.set j (.own m (es.eraseIdx k0)))) (fun a z => mo_same (t := .own m (es.eraseIdx k0)) h2 hu' (fun _ y => y) z) q)⟩) _ _ hr0
  subst z
  cases m with
  | true => exact q.2.1 mo
  | false => exact q.1 mo
/-- x.index(e), x a list of ints -/
def dLindex (da te : DTE) : DTE := fun XX ρ Q => da XX ρ fun _ d => ∃ ns : List Int, d = .lst (ns.map .int) ∧ te XX ρ fun _ y => ∃ (i : Int) (j : Nat), y = .int i ∧ ns[j]? = some i ∧ (∀ m, m < j → ns[m]? ≠ some i) ∧ Q .fr (.int j)
theorem pd_lindex {o e : Expr} (ho : PE X o (cE G E da)) (he : PE X e (cE G E te)) (hbase : attributeBase o "index" X.env (eval o X.env) = eval o X.env := by rfl)
    (hfew : ((backTo cpos (starEach (e :: []) X.env)).all (fun x => !x.1) && (backToKw cpos (keywordEach [] X.env)).all (fun x => x.1.isSome)
      && decide ((e :: []).length + ([] : List Keyword).length + (if ([] : List Keyword).isEmpty then 0 else 1) < 30)) = true := by rfl)
    (hline : (apos.endLine == cpos.line) = true := by rfl) (hs : starEach (e :: []) X.env = (false, eval e X.env) :: starEach [] X.env := by rfl) (hplain : (backTo cpos (starEach [] X.env)).any (·.1) = false := by rfl) :
    PE X (.Call (.Attribute o "index" apos) [e] [] cpos) (cE G E (dLindex da te)) :=
  pe_weak (pe_bm PySem.F.plainAttrs_list PySem.F.slot_list_index PySem.F.type_list_index mt_index ho (pa_cons he pa_nil hs) hbase hfew hline hs hplain) fun σ H Qv h => by
  obtain ⟨H0, r, γ, ρ, XX, Q, env, q, hx, post⟩ := h
  refine cE_at (Now.start env) q hx fun v k d H1 ⟨ns, hd, q1⟩ e1 N1 r1 => ?_
  subst hd
  obtain ⟨a, xs, rfl, _, h1, h2⟩ := rep_lst r1
  rw [h2.ints] at h1
  refine ⟨.inl ⟨rfl, _, SqL.of h1⟩, ?_⟩
  refine cE_at N1 q1 hx fun v2 k2 d2 H2 ⟨i, j, hd, hj, hno, q2⟩ e2 N2 r2 => ?_
  subst hd
  cases rep_i r2
  have h1' : H2 a = some (.lst (ns.map V.int)) := e2.keep _ _ (N1.cxt.ne_r (by assumption)) h1
  refine ⟨a, ns.map V.int, .int i, j, .int i, rfl, rfl, SqL.of h1', rfl, by simp [flatV], by rw [List.getElem?_map, hj]; rfl, by simp [eqV], fun m z' hm hz => ?_, post _ .fr _ _ q2 N2.ex N2.row rep_int⟩
  rw [List.getElem?_map] at hz
  obtain ⟨w, hw, rfl⟩ := Option.map_eq_some_iff.mp hz
  have hne : w ≠ i := fun z => hno m hm (by rw [hw, z])
  simp [eqV, hne]
end
section
variable {XX : Exn → Prop} {DD : DEnds} {ρ : Rho} {Q : KQ}
@[simp] theorem s_dDicO {i} : dDicO i XX DD ρ = DD.nx (ρ.set i (.od [] [])) := rfl
@[simp] theorem s_dDicP {i te tk} : dDicP i te tk XX DD ρ = te XX ρ fun _ d => ∃ ks ds, ρ[i]? = some (.od ks ds) ∧ d.flat = true ∧ tk XX ρ fun _ dk => ∃ k, dk = kD k ∧ k ∉ ks ∧ ks.length < 100000 ∧ DD.nx (ρ.set i (.od (ks ++ [k]) (ds ++ [d]))) := rfl
@[simp] theorem s_dShut {i t} : dShut i t XX DD ρ = ∃ ks ds, ρ[i]? = some (.od ks ds) ∧ ∀ o, t XX DD (ρ.set i (.v true (.dic o ks ds))) := rfl
@[simp] theorem s_ixK {k1 o ks ds k2 d2} : rdIxK k1 (.dic o ks ds) k2 d2 Q = ∃ k d, d2 = kD k ∧ dAt ks ds k = some d ∧ Q k1 d := rfl
@[simp] theorem s_eqE {k1 o ks ds k2 o2 ds2} : rdEqE k1 (.dic o ks ds) k2 (.dic o2 [] ds2) Q = Q .fr (.bl ks.isEmpty) := rfl
@[simp] theorem s_diKey {te Qi} : diKey te XX ρ Qi = te XX ρ fun k d => ∃ o ks ds, d = .dic o ks ds ∧ Qi k (ks.map kD) := rfl
@[simp] theorem s_dTupO {i} : dTupO i XX DD ρ = DD.nx (ρ.set i (.ho (.dT (encT [])))) := rfl
@[simp] theorem s_dTupP {i te tk} : dTupP i te tk XX DD ρ = ∃ m, ρ[i]? = some (.ho (.dT (encT m))) ∧ m.length < 100000 ∧ te XX ρ fun _ d => ∃ v, d = kD v ∧ tk XX ρ fun _ dk => ∃ k, dk = pD k ∧ DD.nx (ρ.set i (.ho (.dT (encT (putT m k v))))) := rfl
@[simp] theorem s_dTupG {i te} : dTupG i te XX ρ Q = ∃ m, ρ[i]? = some (.ho (.dT (encT m))) ∧ te XX ρ fun _ dk => ∃ k, dk = pD k ∧ Q .fr (kD ((getT m k).getD none)) := rfl
@[simp] theorem s_dAppPop {i j te} : dAppPop i j te XX DD ρ = ∃ n ds m es, i ≠ j ∧ ρ[i]? = some (.own n ds) ∧ ρ[j]? = some (.own m es) ∧ ds.length < 100000 ∧ es.length ≤ 100000 ∧ te XX ρ fun _ dk => ∃ (k : Nat) (hk : k < es.length), dk = .int k ∧
  DD.nx ((ρ.set j (.own m (es.eraseIdx k))).set i (.own (n && m) (ds ++ [es[k]]))) := rfl
@[simp] theorem s_dLindex {da te} : dLindex da te XX ρ Q = da XX ρ fun _ d => ∃ ns : List Int, d = .lst (ns.map .int) ∧ te XX ρ fun _ y => ∃ (i : Int) (j : Nat), y = .int i ∧ ns[j]? = some i ∧ (∀ m, m < j → ns[m]? ≠ some i) ∧ Q .fr (.int j) := rfl
@[simp] theorem fg_ho {s ρ n ρ'} : Fgt (s :: ρ) (.ho n :: ρ') ↔ s = .ho n ∧ Fgt ρ ρ' := ⟨fun h => by cases h; exact ⟨rfl, by assumption⟩, fun ⟨h1, h2⟩ => by rw [h1]; exact .keep h2⟩
end
end HD

set_option Elab.async false
set_option linter.all false
set_option maxRecDepth 100000
set_option maxHeartbeats 1000000
/-! what a row costs; rows and texts turned about -/
namespace HD
open PySem PySem.Spec PyProof.Rows L2
def rankO (fs : List Face) : Option Nat → Int
  | none => 0
  | some k => rankOf fs k
def ranksL (fs : List Face) (r : List (Option Nat)) : Int := (r.map (rankO fs)).sum
theorem ranksL_snoc (fs : List Face) (r : List (Option Nat)) (f : Option Nat) : ranksL fs (r ++ [f]) = ranksL fs r + rankO fs f := by
  unfold ranksL
  simp
theorem costL_none (fs : List Face) (f : Option Nat) : costL fs f none = (0, rankO fs f) := by
  cases f <;> simp [costL, rankO]
theorem wayOf_cost (fs : List Face) : ∀ p : List Cand, (∀ q ∈ p, q.2 = none) → ∀ r, RowOf p r → (wayOf fs p r).1 = ((changesL r : Int), 0, ranksL fs r) := by
  refine snoc_ind (fun _ r hr => ?_) fun p q ih hq r hr => ?_
  · rw [show r = [] from hr]; rfl
  · obtain ⟨r', f, rfl, hr', hf⟩ := RowOf.snoc.mp hr
    have h := ih (fun q hq' => hq q (by simp [hq'])) r' hr'
    rw [wayOf_snoc fs q f hr'.len, changesL_snoc, ranksL_snoc]
    show (_ + chgTo (wayOf fs p r').2 f, _, _) = _
    rw [wayOf_row fs hr'.len, h, hq q (by simp), costL_none]
    simp
/-- no row costs less -/
theorem best_cost (fs : List Face) {ev : List (List Nat)} {r : List (Option Nat)} (h : RowE ev r) : changesL (bestL fs ev (nones ev.length)) < changesL r ∨ (changesL (bestL fs ev (nones ev.length)) = changesL r ∧ ranksL fs (bestL fs ev (nones ev.length)) ≤ ranksL fs r) := by
  have hw : (nones ev.length).length = ev.length := by simp [nones]
  obtain ⟨r0, hr0, e0⟩ := (least_all fs (ev.zip (nones ev.length))).1
  have hr := (RowE_of hw).mpr h
  have hl := (least_all fs (ev.zip (nones ev.length))).2 r hr
  have e1 : bestL fs ev (nones ev.length) = r0 := by unfold bestL; rw [e0, wayOf_row fs hr0.len]
  have hn0 : ∀ q ∈ ev.zip (nones ev.length), q.2 = none := fun q hq => by
    have := (List.of_mem_zip (show (q.1, q.2) ∈ _ from hq)).2
    simp [nones] at this
    exact this.2
  rw [e1]
  rw [e0] at hl
  have c0 := wayOf_cost fs _ hn0 r0 hr0
  have c1 := wayOf_cost fs _ hn0 r hr
  have hn : ¬ ltW (wayOf fs (ev.zip (nones ev.length)) r) (wayOf fs (ev.zip (nones ev.length)) r0) = true := by rw [hl]; simp
  rw [ltW_iff, c0, c1, ltC_iff] at hn
  by_cases h1 : changesL r0 < changesL r
  · exact .inl h1
  · by_cases h2 : changesL r0 = changesL r
    · refine .inr ⟨h2, ?_⟩
      apply Classical.byContradiction
      intro h3
      apply hn
      refine .inr ⟨fun z => ?_, .inr ⟨by show (changesL r : Int) = changesL r0; omega, .inr ⟨rfl, ?_⟩⟩⟩
      · have z2 : ranksL fs r = ranksL fs r0 := congrArg (fun c : Cost => c.2.2) z
        omega
      · show ranksL fs r < ranksL fs r0
        omega
    · exfalso
      apply hn
      refine .inr ⟨fun z => ?_, ?_⟩
      · simp only [Prod.mk.injEq] at z
        omega
      · simp only
        omega
/-! turned about -/
theorem changesL_cons (f : Option Nat) (r : List (Option Nat)) : changesL (f :: r) = (if r.head? = some f ∨ r = [] then 0 else 1) + changesL r := by
  cases r with
  | nil => rfl
  | cons g r =>
    unfold changesL
    rw [show (f :: g :: r).length - 1 = (r.length) + 1 by simp, List.range_succ_eq_map, List.filter_cons, List.filter_map, show (g :: r).length - 1 = r.length by simp]
    have e : ((List.range r.length).filter (chg (f :: g :: r) ∘ Nat.succ)) = (List.range r.length).filter (chg (g :: r)) := by
      apply List.filter_congr
      intro k _
      rfl
    rw [e]
    by_cases c : f = g
    · subst c
      simp [chg]
    · have c' : ¬ g = f := fun z => c z.symm
      simp [chg, c, c']
      omega
theorem changesL_rev (r : List (Option Nat)) : changesL r.reverse = changesL r := by
  induction r with
  | nil => rfl
  | cons f r ih =>
    rw [List.reverse_cons, changesL_cons]
    have h := changesL_snoc r.reverse f
    rw [ih] at h
    have : chgTo r.reverse f = ((if r.head? = some f ∨ r = [] then 0 else 1 : Nat) : Int) := by
      unfold chgTo
      rw [List.getLast?_reverse]
      by_cases h1 : r = []
      · simp [h1]
      · by_cases h2 : r.head? = some f
        · simp [h2]
        · simp [h1, h2]
    omega
theorem ranksL_rev (fs : List Face) (r : List (Option Nat)) : ranksL fs r.reverse = ranksL fs r := by
  unfold ranksL
  rw [List.map_reverse, List.sum_reverse]
theorem RowE.rev {ev : List (List Nat)} {r : List (Option Nat)} (h : RowE ev r) : RowE ev.reverse r.reverse := by
  refine ⟨by simp [h.1], fun i q f e1 e2 => ?_⟩
  have hi := (List.getElem?_eq_some_iff.mp e1).1
  simp at hi
  rw [List.getElem?_reverse hi] at e1
  rw [List.getElem?_reverse (by rw [h.1]; exact hi), h.1] at e2
  exact h.2 _ q f e1 e2
theorem best_rev (fs : List Face) (ev : List (List Nat)) : changesL (bestL fs ev.reverse (nones ev.reverse.length)) = changesL (bestL fs ev (nones ev.length)) ∧ ranksL fs (bestL fs ev.reverse (nones ev.reverse.length)) = ranksL fs (bestL fs ev (nones ev.length)) := by
  have h1 := (bestL_row fs (ev := ev) (wants := nones ev.length) (by simp [nones])).rev
  have h2 := (bestL_row fs (ev := ev.reverse) (wants := nones ev.reverse.length) (by simp [nones])).rev
  rw [List.reverse_reverse] at h2
  have a := best_cost fs h1
  have b := best_cost fs h2
  rw [changesL_rev, ranksL_rev] at a b
  omega
/-! a text of its clusters in the other order -/
def LetterAhead (t : List Int) : Prop := ∀ s, t.head? = some s → s < 800
def Clu (c : List Int) : Prop := ∃ s m, c = s :: m ∧ s < 800 ∧ ∀ x ∈ m, 800 ≤ x
theorem parts_marks : ∀ (m : List Int) (acc : List (List Int)) (c : List Int), (∀ x ∈ m, 800 ≤ x) → m.foldl pstep (acc ++ [c]) = acc ++ [c ++ m]
  | [], acc, c, _ => by simp
  | x :: m, acc, c, h => by
    rw [List.foldl_cons, pstep, if_pos ⟨h x (by simp), by simp⟩]
    simp only [List.dropLast_concat, List.getLast?_append, List.getLast?_singleton, Option.some_or, Option.getD_some]
    rw [parts_marks m acc (c ++ [x]) fun y hy => h y (by simp [hy])]
    simp
theorem parts_clu : ∀ (cs : List (List Int)) (acc : List (List Int)), (∀ c ∈ cs, Clu c) → cs.flatten.foldl pstep acc = acc ++ cs
  | [], acc, _ => by simp
  | c :: cs, acc, h => by
    obtain ⟨s, m, rfl, hs, hm⟩ := h c (by simp)
    rw [List.flatten_cons, List.foldl_append, List.foldl_cons, pstep, if_neg (by omega), parts_marks m acc [s] hm, parts_clu cs _ fun c hc => h c (by simp [hc])]
    simp
theorem partsL_clu {cs : List (List Int)} (h : ∀ c ∈ cs, Clu c) : partsL cs.flatten = cs := by
  have := parts_clu cs [] h
  unfold partsL
  simpa using this
theorem parts_Clu (t : List Int) : LetterAhead t → ∀ c ∈ partsL t, Clu c := by
  refine snoc_ind (P := fun t => LetterAhead t → ∀ c ∈ partsL t, Clu c) (fun _ c hc => by simp [partsL] at hc) (fun t s ih h c hc => ?_) t
  rw [partsL_snoc] at hc
  by_cases ht : t = []
  · subst ht
    have hs := h s rfl
    rw [pstep, if_neg (by omega)] at hc
    simp [partsL] at hc
    subst hc
    exact ⟨s, [], rfl, hs, fun _ hx => nomatch hx⟩
  · have ih' := ih fun x hx => h x (by rw [List.head?_append, hx]; rfl)
    unfold pstep at hc
    split at hc
    · rename_i h2
      have e := List.dropLast_concat_getLast h2.2
      rcases List.mem_append.mp hc with hc | hc
      · exact ih' c (by rw [← e]; exact List.mem_append_left _ hc)
      · rw [List.getLast?_eq_some_getLast h2.2] at hc
        simp at hc
        subst hc
        obtain ⟨a, m, e2, ha, hm⟩ := ih' _ (List.getLast_mem h2.2)
        refine ⟨a, m ++ [s], by rw [e2]; rfl, ha, fun x hx => ?_⟩
        rcases List.mem_append.mp hx with hx | hx
        · exact hm x hx
        · rw [List.mem_singleton.mp hx]
          exact h2.1
    · rename_i h2
      rcases List.mem_append.mp hc with hc | hc
      · exact ih' c hc
      · rw [List.mem_singleton.mp hc]
        have hp : partsL t ≠ [] := fun z => ht (parts_nil.mp z)
        exact ⟨s, [], rfl, by
          apply Classical.byContradiction
          intro h3
          exact h2 ⟨by omega, hp⟩, fun _ hx => nomatch hx⟩
theorem every_turned {fs : List Face} {t : List Int} (h : LetterAhead t) : everyL fs (partsL t).reverse.flatten = (everyL fs t).reverse := by
  unfold everyL
  rw [partsL_clu fun c hc => parts_Clu t h c (List.mem_reverse.mp hc), List.map_reverse]
end HD

set_option Elab.async false
set_option linter.all false
set_option maxRecDepth 100000
set_option maxHeartbeats 1000000
/-! clusters left out; faces told otherwise; texts cut -/
namespace HD
open PySem PySem.Spec PyProof.Rows L2
/-! ### clusters -/
def Grp (c : List Int) : Prop := ∃ s m, c = s :: m ∧ ∀ x ∈ m, 800 ≤ x
theorem Clu.grp {c : List Int} (h : Clu c) : Grp c := let ⟨s, m, e, _, h2⟩ := h; ⟨s, m, e, h2⟩
def Parts : List (List Int) → Prop
  | [] => True
  | c :: cs => Grp c ∧ ∀ d ∈ cs, Clu d
theorem Parts.all {cs : List (List Int)} (h : Parts cs) : ∀ c ∈ cs, Grp c := fun c hc => by
  cases cs with
  | nil => cases hc
  | cons d ds =>
    rcases List.mem_cons.mp hc with e | hc
    · rw [e]; exact h.1
    · exact (h.2 c hc).grp
theorem Parts.of_clu {cs : List (List Int)} (h : ∀ c ∈ cs, Clu c) : Parts cs := by
  cases cs with
  | nil => trivial
  | cons d ds => exact ⟨(h d List.mem_cons_self).grp, fun c hc => h c (List.mem_cons_of_mem _ hc)⟩
theorem Parts.sub {cs ds : List (List Int)} (h : Parts cs) (s : ds.Sublist cs) : Parts ds := by
  cases s with
  | slnil => trivial
  | cons a s => exact .of_clu fun c hc => h.2 c (s.subset hc)
  | cons_cons a s => exact ⟨h.1, fun c hc => h.2 c (s.subset hc)⟩
theorem parts_of {cs : List (List Int)} (h : Parts cs) : partsL cs.flatten = cs := by
  cases cs with
  | nil => rfl
  | cons c cs =>
    obtain ⟨⟨s, m, e, hm⟩, hc⟩ := h
    subst e
    unfold partsL
    rw [List.flatten_cons, List.foldl_append, List.foldl_cons]
    have e0 : pstep [] s = [] ++ [[s]] := by unfold pstep; simp
    rw [e0, parts_marks m [] [s] hm, parts_clu cs _ hc]
    rfl
theorem parts_Parts (t : List Int) : Parts (partsL t) := by
  refine snoc_ind (P := fun t => Parts (partsL t)) trivial (fun t s ih => ?_) t
  rw [partsL_snoc]
  unfold pstep
  generalize partsL t = acc at ih ⊢
  by_cases h : 800 ≤ s ∧ acc ≠ []
  · rw [if_pos h]
    rcases List.eq_nil_or_concat acc with e | ⟨bs, b, e⟩
    · exact absurd e h.2
    · rw [List.concat_eq_append] at e
      subst e
      simp
      cases bs with
      | nil =>
        obtain ⟨⟨x, m, e, hm⟩, _⟩ := ih
        subst e
        exact ⟨⟨x, m ++ [s], rfl, fun y hy => by
          rcases List.mem_append.mp hy with hy | hy
          · exact hm y hy
          · rw [List.mem_singleton.mp hy]; exact h.1⟩, by simp⟩
      | cons c cs =>
        refine ⟨ih.1, fun d hd => ?_⟩
        rcases List.mem_append.mp hd with hd | hd
        · exact ih.2 d (by simp [hd])
        · rw [List.mem_singleton.mp hd]
          obtain ⟨x, m, e, hx, hm⟩ := ih.2 b (by simp)
          subst e
          exact ⟨x, m ++ [s], rfl, hx, fun y hy => by
            rcases List.mem_append.mp hy with hy | hy
            · exact hm y hy
            · rw [List.mem_singleton.mp hy]; exact h.1⟩
  · rw [if_neg h]
    cases acc with
    | nil => exact ⟨⟨s, [], rfl, by simp⟩, by simp⟩
    | cons c cs =>
      refine ⟨ih.1, fun d hd => ?_⟩
      rcases List.mem_append.mp hd with hd | hd
      · exact ih.2 d hd
      · rw [List.mem_singleton.mp hd]
        refine ⟨s, [], rfl, ?_, by simp⟩
        simp at h
        omega
theorem parts_app {a b : List Int} (h : LetterAhead b) : partsL (a ++ b) = partsL a ++ partsL b := by
  have h2 := parts_Clu b h
  have h3 := parts_flat b
  have h4 : (a ++ b).foldl pstep [] = (b).foldl pstep (partsL a) := by rw [List.foldl_append]; rfl
  show (a ++ b).foldl pstep [] = _
  rw [h4]
  conv => lhs; rw [← h3]
  exact parts_clu _ _ h2
/-! ### rows whose faces are renumbered -/
theorem changesL_app (a b : List (Option Nat)) : changesL (a ++ b) ≤ changesL a + changesL b + 1 := by
  refine snoc_ind (P := fun b => changesL (a ++ b) ≤ changesL a + changesL b + 1) (by simp; omega) (fun b f ih => ?_) b
  have h1 := changesL_snoc (a ++ b) f
  have h2 := changesL_snoc b f
  rw [← List.append_assoc]
  have h3 : chgTo (a ++ b) f ≤ chgTo b f ∨ b = [] := by
    cases b with
    | nil => exact .inr rfl
    | cons x xs =>
      refine .inl ?_
      unfold chgTo
      rw [List.getLast?_append]
      simp
  rcases h3 with h3 | h3
  · omega
  · subst h3
    have h4 : chgTo a f ≤ 1 := by unfold chgTo; split <;> omega
    have h5 : changesL ([] ++ [f]) = 0 := by rfl
    rw [List.append_nil] at h1 ⊢
    omega
theorem changesL_le1 (a b : List (Option Nat)) : changesL a ≤ changesL (a ++ b) := by
  refine snoc_ind (P := fun b => changesL a ≤ changesL (a ++ b)) (by simp) (fun b f ih => ?_) b
  have h1 := changesL_snoc (a ++ b) f
  rw [← List.append_assoc]
  have h4 : 0 ≤ chgTo (a ++ b) f := by unfold chgTo; split <;> omega
  omega
theorem changesL_le2 (a b : List (Option Nat)) : changesL b ≤ changesL (a ++ b) := by
  have := changesL_le1 b.reverse a.reverse
  rw [← List.reverse_append, changesL_rev, changesL_rev] at this
  exact this
theorem changesL_map {g : Option Nat → Option Nat} (hg : ∀ x y, g x = g y → x = y) (r : List (Option Nat)) : changesL (r.map g) = changesL r := by
  unfold changesL
  rw [List.length_map]
  congr 1
  apply List.filter_congr
  intro i _
  unfold chg
  rw [List.getElem?_map, List.getElem?_map]
  have : (r[i]?.map g = r[i + 1]?.map g) ↔ r[i]? = r[i + 1]? := by
    constructor
    · intro z
      cases h1 : r[i]? with
      | none => cases h2 : r[i + 1]? with
        | none => rfl
        | some y => rw [h1, h2] at z; cases z
      | some x => cases h2 : r[i + 1]? with
        | none => rw [h1, h2] at z; cases z
        | some y => rw [h1, h2] at z; rw [hg x y (Option.some.inj z)]
    · intro z; rw [z]
  simp only [ne_eq, this]
theorem RowE.app {e1 e2 : List (List Nat)} {r1 r2 : List (Option Nat)} (h1 : RowE e1 r1) (h2 : RowE e2 r2) : RowE (e1 ++ e2) (r1 ++ r2) := by
  refine ⟨by rw [List.length_append, List.length_append, h1.1, h2.1], fun i q f hq hf => ?_⟩
  by_cases hi : i < e1.length
  · rw [List.getElem?_append_left hi] at hq
    rw [List.getElem?_append_left (by rw [h1.1]; exact hi)] at hf
    exact h1.2 i q f hq hf
  · rw [List.getElem?_append_right (by omega)] at hq
    rw [List.getElem?_append_right (by rw [h1.1]; omega), h1.1] at hf
    exact h2.2 _ q f hq hf
theorem RowE.split {e1 e2 : List (List Nat)} {r : List (Option Nat)} (h : RowE (e1 ++ e2) r) : RowE e1 (r.take e1.length) ∧ RowE e2 (r.drop e1.length) := by
  have hl := h.1
  rw [List.length_append] at hl
  refine ⟨⟨by rw [List.length_take]; omega, fun i q f hq hf => ?_⟩, ⟨by rw [List.length_drop]; omega, fun i q f hq hf => ?_⟩⟩
  · have hi := (List.getElem?_eq_some_iff.mp hq).1
    rw [List.getElem?_take_of_lt hi] at hf
    exact h.2 i q f (by rw [List.getElem?_append_left hi]; exact hq) hf
  · rw [List.getElem?_drop] at hf
    exact h.2 _ q f (by rw [List.getElem?_append_right (by omega)]; rw [Nat.add_sub_cancel_left]; exact hq) hf
/-- a text behind another one -/
theorem cut_few (fs : List Face) {e1 e2 : List (List Nat)} : changesL (bestL fs (e1 ++ e2) (nones (e1 ++ e2).length)) ≤ changesL (bestL fs e1 (nones e1.length)) + changesL (bestL fs e2 (nones e2.length)) + 1 ∧
    changesL (bestL fs e1 (nones e1.length)) ≤ changesL (bestL fs (e1 ++ e2) (nones (e1 ++ e2).length)) ∧ changesL (bestL fs e2 (nones e2.length)) ≤ changesL (bestL fs (e1 ++ e2) (nones (e1 ++ e2).length)) := by
  have n1 : (nones e1.length).length = e1.length := by simp [nones]
  have n2 : (nones e2.length).length = e2.length := by simp [nones]
  have n3 : (nones (e1 ++ e2).length).length = (e1 ++ e2).length := by simp [nones]
  have b1 := bestL_row fs n1
  have b2 := bestL_row fs n2
  have b3 := bestL_row fs n3
  obtain ⟨s1, s2⟩ := b3.split
  refine ⟨Nat.le_trans (bestL_few fs n3 (b1.app b2)) (changesL_app _ _), Nat.le_trans (bestL_few fs n1 s1) ?_, Nat.le_trans (bestL_few fs n2 s2) ?_⟩
  · conv => rhs; rw [← List.take_append_drop e1.length (bestL fs (e1 ++ e2) (nones (e1 ++ e2).length))]
    exact changesL_le1 _ _
  · conv => rhs; rw [← List.take_append_drop e1.length (bestL fs (e1 ++ e2) (nones (e1 ++ e2).length))]
    exact changesL_le2 _ _
/-- faces renumbered, that have no less -/
theorem wider_few {fs fs' : List Face} {cs : List (List Int)} (g : Nat → Nat) (hg : ∀ x y, g x = g y → x = y) (hne : ∀ c ∈ cs, havingL fs c ≠ []) (h : ∀ c ∈ cs, ∀ k ∈ havingL fs c, g k ∈ havingL fs' c) :
    changesL (bestL fs' (cs.map (havingL fs')) (nones (cs.map (havingL fs')).length)) ≤ changesL (bestL fs (cs.map (havingL fs)) (nones (cs.map (havingL fs)).length)) := by
  have n1 : (nones (cs.map (havingL fs)).length).length = (cs.map (havingL fs)).length := by simp [nones]
  have n2 : (nones (cs.map (havingL fs')).length).length = (cs.map (havingL fs')).length := by simp [nones]
  have b1 := bestL_row fs n1
  have b3 : RowE (cs.map (havingL fs')) ((bestL fs (cs.map (havingL fs)) (nones (cs.map (havingL fs)).length)).map (Option.map g)) := by
    refine ⟨by rw [List.length_map, b1.1, List.length_map, List.length_map], fun i q f hq hf => ?_⟩
    rw [List.getElem?_map] at hq hf
    obtain ⟨c, hc, rfl⟩ := Option.map_eq_some_iff.mp hq
    obtain ⟨f0, hf0, rfl⟩ := Option.map_eq_some_iff.mp hf
    have hm := List.mem_of_getElem? hc
    have q1 := b1.2 i (havingL fs c) f0 (by rw [List.getElem?_map, hc]; rfl) hf0
    unfold cands at q1 ⊢
    rw [if_neg (hne c hm)] at q1
    obtain ⟨k, hk, rfl⟩ := List.mem_map.mp q1
    have q2 := h c hm k hk
    rw [if_neg (List.ne_nil_of_mem q2)]
    exact List.mem_map.mpr ⟨g k, q2, rfl⟩
  have := bestL_few fs' n2 b3
  rw [changesL_map (fun x y e => by
    cases x <;> cases y <;> simp at e
    · rfl
    · rw [hg _ _ e])] at this
  exact this
theorem having_mem {fs : List Face} {c : List Int} {k : Nat} : k ∈ havingL fs c ↔ ∃ f, fs[k]? = some f ∧ ∀ s ∈ c, s ∈ f.signs := by
  unfold havingL
  rw [List.mem_filter, List.mem_range, List.all_eq_true]
  unfold hasS
  constructor
  · rintro ⟨h1, h2⟩
    refine ⟨fs[k], List.getElem?_eq_getElem h1, fun s hs => ?_⟩
    have := h2 s hs
    rw [List.getElem?_eq_getElem h1] at this
    simpa using this
  · rintro ⟨f, h1, h2⟩
    refine ⟨(List.getElem?_eq_some_iff.mp h1).1, fun s hs => ?_⟩
    rw [h1]
    simpa using h2 s hs
/-- a face more -/
theorem more_face {fs : List Face} {x : Face} {p : Nat} (hp : p ≤ fs.length) {c : List Int} {k : Nat} (h : k ∈ havingL fs c) : (if k < p then k else k + 1) ∈ havingL (fs.take p ++ [x] ++ fs.drop p) c := by
  obtain ⟨f, h1, h2⟩ := having_mem.mp h
  refine having_mem.mpr ⟨f, ?_, h2⟩
  have hl : (fs.take p).length = p := by rw [List.length_take]; omega
  split
  · rename_i hk
    rw [List.append_assoc, List.getElem?_append_left (by omega), List.getElem?_take_of_lt hk]
    exact h1
  · rename_i hk
    rw [List.getElem?_append_right (by rw [List.length_append, hl]; simp; omega), List.length_append, hl, List.getElem?_drop]
    simp
    rw [show p + (k - p) = k from by omega]
    exact h1
theorem more_signs {fs : List Face} {p : Nat} {f0 : Face} {sg : List Int} (h0 : fs[p]? = some f0) (hs : ∀ s ∈ f0.signs, s ∈ sg) {c : List Int} {k : Nat} (h : k ∈ havingL fs c) : k ∈ havingL (fs.take p ++ [{ f0 with signs := sg }] ++ fs.drop (p + 1)) c := by
  obtain ⟨f, h1, h2⟩ := having_mem.mp h
  have hp := (List.getElem?_eq_some_iff.mp h0).1
  have hl : (fs.take p).length = p := by rw [List.length_take]; omega
  rcases Nat.lt_trichotomy k p with hk | hk | hk
  · exact having_mem.mpr ⟨f, by rw [List.append_assoc, List.getElem?_append_left (by omega), List.getElem?_take_of_lt hk]; exact h1, h2⟩
  · subst hk
    rw [h0] at h1
    cases h1
    exact having_mem.mpr ⟨{ f0 with signs := sg }, by rw [List.append_assoc, List.getElem?_append_right (by omega), hl]; simp, fun s z => hs s (h2 s z)⟩
  · refine having_mem.mpr ⟨f, ?_, h2⟩
    rw [List.getElem?_append_right (by rw [List.length_append, hl]; simp; omega), List.length_append, hl, List.getElem?_drop]
    simp
    rw [show p + 1 + (k - (p + 1)) = k from by omega]
    exact h1
end HD

set_option Elab.async false
set_option linter.all false
set_option maxRecDepth 100000
set_option maxHeartbeats 1000000
/-! readings: rows mended -/
namespace HD
open PySem PySem.Spec PyProof.Rows L2
def f_need_row : DSp := dsp2 fun a b Q => ∃ (ev : List (List Nat)) (r : List (Option Nat)), a = .lst (ev.map eL) ∧ b = eR r ∧ RowE ev r ∧ ev.length ≤ 1000 ∧ (∀ q ∈ ev, q.length ≤ 1000) ∧ Q .non
-- need_row(every, row): 0 every 1 row 2 place
@[reducible] def b_need_row : DTS :=
  (dFor (diRg1 (dCons (dCB rdMax (dCons (dCB rdLen (dCons (dVar 0) dNil)) (dCons (dCB rdLen (dCons (dVar 1) dNil)) dNil))) dNil)) (dgName 2) (dSeq (dIfS (dB (dOp rdGe (dVar 2) (dCB rdMin (dCons (dCB rdLen (dCons (dVar 0) dNil)) (dCons (dCB rdLen (dCons (dVar 1) dNil)) dNil))))) dNever dNext)
    (dIfS (dOr (dAnd (dB (dOp rdIs (dOp rdIx (dVar 1) (dVar 2)) (dC .non))) (dB (dOp rdNe (dOp rdIx (dVar 0) (dVar 2)) (dLst dNil)))) (dAnd (dB (dOp rdIsNot (dOp rdIx (dVar 1) (dVar 2)) (dC .non))) (dB (dOp (rdIn true) (dOp rdIx (dVar 1) (dVar 2)) (dOp rdIx (dVar 0) (dVar 2)))))) dNever dNext)))
theorem row_at' {ev : List (List Nat)} {r : List (Option Nat)} {i : Nat} (h : RowE ev r) (hi : i < ev.length) : ∃ q f, atI (ev.map eL) (i : Int) = some (eL q) ∧ atI (r.map eO) (i : Int) = some (eO f) ∧ f ∈ cands q := by
  have hi2 : i < r.length := by rw [h.1]; exact hi
  refine ⟨ev[i], r[i], by rw [atI_map, atI_nat hi]; rfl, by rw [atI_map, atI_nat hi2]; rfl, h.2 i _ _ (List.getElem?_eq_getElem hi) (List.getElem?_eq_getElem hi2)⟩
theorem rd_need_row : Rd 3 f_need_row b_need_row := by
  rintro XX ds Q ⟨_, _, rfl, ev, r, rfl, rfl, hr, hl, hq, hQ⟩
  have hrl := hr.1
  simp [b_need_row, ini, eR]
  refine for_rangeS 0 ev.length (fun _ : Unit => [.v false (.lst (ev.map eL)), .v false (.lst (r.map eO)), .e]) (fun i _ => True) () (fun Q h => by simp [hrl]; exact ⟨by omega, h⟩) (by simp [eR]) trivial (fun i _ hi _ => ?_) fun _ _ => hQ
  simp [hrl]
  obtain ⟨q, f, h1, h2, h3⟩ := row_at' hr hi
  cases f with
  | none =>
    have hq0 : q = [] := by
      unfold cands at h3
      split at h3
      · assumption
      · simp at h3
    subst hq0
    simp [h1, h2, hi]
  | some k =>
    have hk : k ∈ q := by
      unfold cands at h3
      split at h3
      · simp at h3
      · simpa using h3
    have hc : ((q.map eN).any fun y => dEqS y (eN k)) = true := by rw [inN']; simpa using hk
    simp [h1, h2, hi, eL, hc, hk]
inductive Chg where
  | goes (k : Nat) | put (a b : Nat) (sg : List Int)
def eCh : Chg → D
  | .goes k => .tup [.str ("goes" : Str), eN k]
  | .put a b sg => .tup [.str ("put" : Str), eN a, eN b, .lst (sg.map .int)]
/-- what is a change of so many faces, a text -/
def ChgOk (n : Nat) (t : List Int) : Chg → Prop
  | .goes k => k < n
  | .put a b sg => a ≤ b ∧ b ≤ t.length ∧ TextOk sg ∧ sg.length ≤ 300
def f_need_change : DSp := dsp3 fun a b c Q => ∃ (fs : List Face) (t : List Int) (ch : Chg), a = .obj (fs.map eF) ∧ b = .lst (t.map .int) ∧ c = eCh ch ∧ t.length ≤ 1000 ∧ ChgOk fs.length t ch ∧ Q .non
-- need_change(case, text, change): 0 case 1 text 2 change 3 good 4 sign
@[reducible] def b_need_change : DTS :=
  (dSeq (dIfS (dAnd (dB (dOp rdEq (dCB rdLen (dCons (dVar 2) dNil)) (dC (.int 2)))) (dB (dOp rdEq (dOp rdIx (dVar 2) (dC (.int 0))) (dC (.str ("goes" : Str)))))) (dAsg (dChain rdLe rdLt (dC (.int 0)) (dOp rdIx (dVar 2) (dC (.int 1))) (dCB rdLen (dCons (dFld (dVar 0)) dNil))) (dgName 3)) (dIfS (dAnd (dB (dOp rdEq (dCB rdLen (dCons (dVar 2) dNil)) (dC (.int 4)))) (dB (dOp rdEq (dOp rdIx (dVar 2) (dC (.int 0))) (dC (.str ("put" : Str)))))) (dSeq (dAsg (dChain3 rdLe rdLe rdLe (dC (.int 0)) (dOp rdIx (dVar 2) (dC (.int 1))) (dOp rdIx (dVar 2) (dC (.int 2))) (dCB rdLen (dCons (dVar 1) dNil))) (dgName 3))
    (dAsg (dAndV (dVar 3) (dOp rdEq (dLc (diSq (dOp rdIx (dVar 2) (dC (.int 3)))) (dgName 4) (dNot (dB (dChain rdLe rdLt (dC (.int 0)) (dVar 4) (dC (.int 1000))))) (dVar 4) [4]) (dLst dNil))) (dgName 3))) (dAsg (dC (.bl false)) (dgName 3))))
    (dIfS (dNot (dB (dVar 3))) dNever dNext))
theorem rd_need_change : Rd 5 f_need_change b_need_change := by
  rintro XX ds Q ⟨_, _, _, rfl, fs, t, ch, rfl, rfl, rfl, hl, hc, hQ⟩
  cases ch with
  | goes k =>
    have hk : k < fs.length := hc
    simp [b_need_change, ini, eCh, eN]
    exact ⟨by decide +kernel, hk, hQ⟩
  | put a b sg =>
    obtain ⟨h1, h2, h3, h4⟩ := hc
    simp [b_need_change, ini, eCh, eN]
    refine ⟨by decide +kernel, h1, h2, ?_⟩
    refine lc_none sg .int (k := .sf) rfl (fun Qi h => by simp [eN]; exact h) (by omega) rfl (fun s hs K K0 hk => ?_) (by simp; exact hQ)
    have := h3 s hs
    simp [wipeR]
    exact .inr ⟨this.1, .inr ⟨this.2, hk⟩⟩
def woF (f : Face) : Face := ⟨f.name, f.rank, []⟩
def woL (fs : List Face) (k : Nat) : List Face := match fs[k]? with
  | some f => fs.set k (woF f)
  | none => fs
def f_without : DSp := dsp2 fun a b Q => ∃ (fs : List Face) (k : Nat), a = .obj (fs.map eF) ∧ b = eN k ∧ k < fs.length ∧ FacesOk fs ∧ Q (.obj ((woL fs k).map eF))
-- without(case, number): 0 case 1 number 2 faces
@[reducible] def b_without : DTS :=
  (dSeq (dAsgO 2 (dMeth f_faces (dVar 0) dNil))
    (dSeq (dSub 2 (dOp rdAdd (dSl (dOp rdIx (dVar 2) (dVar 1)) dNo (dPt (dC (.int 2)))) (dTup (dCons (dTup dNil) dNil))) (dVar 1))
    (dRet (dMake f_Case (dCons (dVar 2) dNil)))))
theorem wo_ok {fs : List Face} {k : Nat} (h : FacesOk fs) : FacesOk (woL fs k) := by
  unfold woL
  cases hk : fs[k]? with
  | none => exact h
  | some f =>
    have hm := List.mem_of_getElem? hk
    have hkl := (List.getElem?_eq_some_iff.mp hk).1
    refine ⟨by simp; exact h.len, ?_, fun g hg => ?_, fun g hg => ?_, fun g hg => ?_⟩
    · have e : (fs.set k (woF f)).map (·.name) = fs.map (·.name) := by
        apply List.ext_getElem?
        intro i
        rw [List.getElem?_map, List.getElem?_map]
        by_cases hi : k = i
        · subst hi
          rw [List.getElem?_set_self hkl, hk]
          rfl
        · rw [List.getElem?_set_ne hi]
      rw [e]; exact h.nd
    · rcases List.mem_or_eq_of_mem_set hg with q | q
      · exact h.nm g q
      · rw [q]; exact h.nm f hm
    · rcases List.mem_or_eq_of_mem_set hg with q | q
      · exact h.rk g q
      · rw [q]; exact h.rk f hm
    · rcases List.mem_or_eq_of_mem_set hg with q | q
      · exact h.sg g q
      · rw [q]; exact ⟨by simp [woF], by simp [woF], by simp [woF]⟩
theorem wo_len {fs : List Face} {k : Nat} : (woL fs k).length = fs.length := by
  unfold woL
  split <;> simp
@[simp] theorem slF2' {f : Face} {k1 : Kd} {Q : KQ} : rdSl k1 (eF f) none (some 2) Q = Q k1 (.tup [.str f.name, .int f.rank]) := by
  unfold eF
  have : cutD [D.str f.name, D.int f.rank, tints f.signs] none (some 2) = [D.str f.name, D.int f.rank] := by
    have := cutD_to (l := [D.str f.name, D.int f.rank, tints f.signs]) (b := 2)
    exact this
  simp [this]
theorem rd_without : Rd 3 f_without b_without := by
  rintro XX ds Q ⟨_, _, rfl, fs, k, rfl, rfl, hk, hf, hQ⟩
  have hk2 := List.getElem?_eq_getElem hk
  have hat : atI (fs.map eF) (k : Int) = some (eF fs[k]) := by rw [atI_map, atI_nat hk]; rfl
  simp [b_without, ini]
  refine ⟨_, rfl, fs, rfl, ?_⟩
  simp [eN, hat]
  refine ⟨k, ixN_nat hk, ?_⟩
  have e : (fs.map eF).set k (D.tup [D.str fs[k].name, D.int fs[k].rank, D.tup []]) = (woL fs k).map eF := by
    unfold woL
    rw [hk2]
    show _ = (fs.set k (woF fs[k])).map eF
    rw [List.map_set]
    rfl
  rw [e]
  exact call_Case (wo_ok hf) hQ
/-! what stood -/
abbrev TN := List ((Int × Int) × Option Nat)
def moreI (a b n : Nat) : Int := (n : Int) - ((b : Int) - (a : Int))
def stS (a b n : Nat) (m : TN) (q : (Nat × Nat) × Option Nat) : TN :=
  let m1 := if q.1.2 ≤ a then putT m ((q.1.1 : Int), (q.1.2 : Int)) q.2 else m
  if b ≤ q.1.1 then putT m1 ((q.1.1 : Int) + moreI a b n, (q.1.2 : Int) + moreI a b n) q.2 else m1
def stM (t : List Int) (r : List (Option Nat)) (a b n : Nat) : TN := ((boundsL t).zip r).foldl (stS a b n) []
def stoodL (t : List Int) (r : List (Option Nat)) (a b n : Nat) (t2 : List Int) : List (Option Nat) := (boundsL t2).map fun p => (getT (stM t r a b n) ((p.1 : Int), (p.2 : Int))).getD none
def oI (o : Option Nat) : Option Int := o.map fun n => (n : Int)
@[simp] theorem kD_oI {o : Option Nat} : kD (oI o) = eO o := by cases o <;> rfl
def encN (m : TN) : List (List Key × V) := encT (m.map fun q => (q.1, oI q.2))
theorem putT_len {β : Type} (m : List ((Int × Int) × β)) (k : Int × Int) (v : β) : (putT m k v).length ≤ m.length + 1 := by
  unfold putT
  split
  · simp
  · simp
theorem stS_len (a b n : Nat) (m : TN) (q) : (stS a b n m q).length ≤ m.length + 2 := by
  unfold stS
  have h1 := putT_len m ((q.1.1 : Int), (q.1.2 : Int)) q.2
  have h2 := putT_len m ((q.1.1 : Int) + moreI a b n, (q.1.2 : Int) + moreI a b n) q.2
  have h3 := putT_len (putT m ((q.1.1 : Int), (q.1.2 : Int)) q.2) ((q.1.1 : Int) + moreI a b n, (q.1.2 : Int) + moreI a b n) q.2
  dsimp only
  split <;> split <;> omega
theorem stF_len (a b n : Nat) : ∀ (p : List ((Nat × Nat) × Option Nat)) (m : TN), (p.foldl (stS a b n) m).length ≤ m.length + 2 * p.length
  | [], m => by simp
  | q :: p, m => by
    have h1 := stF_len a b n p (stS a b n m q)
    have h2 := stS_len a b n m q
    simp at h1 ⊢
    omega
def f_stood : DSp := dsp4 fun x y z w Q => ∃ (t : List Int) (r : List (Option Nat)) (a b : Nat) (sg t2 : List Int), x = .lst (t.map .int) ∧ y = eR r ∧ z = eCh (.put a b sg) ∧ w = .lst (t2.map .int) ∧ t.length ≤ 1000 ∧ t2.length ≤ 1000 ∧ Q (eR (stoodL t r a b sg.length t2))
-- stood(text, row, change, other): 0 text 1 row 2 change 3 other 4 begin 5 end 6 signs 7 known 8 low 9 high 10 face 11 more 12 one
@[reducible] def b_stood : DTS :=
  (dSeq (dAsg (dSl (dVar 2) (dPt (dC (.int 1))) dNo) (dgTup 3 (dgCons (dgName 4) (dgCons (dgName 5) (dgCons (dgName 6) dgNil)))))
    (dSeq (dTupO 7)
    (dSeq (dFor (diZip (dCons (dCall f_bounds (dCons (dVar 0) dNil)) (dCons (dVar 1) dNil))) (dgTup 2 (dgCons (dgTup 2 (dgCons (dgName 8) (dgCons (dgName 9) dgNil))) (dgCons (dgName 10) dgNil))) (dSeq (dIfS (dB (dOp rdLe (dVar 9) (dVar 4))) (dTupP 7 (dVar 10) (dTup (dCons (dVar 8) (dCons (dVar 9) dNil)))) dNext)
    (dIfS (dB (dOp rdGe (dVar 8) (dVar 5))) (dSeq (dAsg (dOp rdSub (dCB rdLen (dCons (dVar 6) dNil)) (dOp rdSub (dVar 5) (dVar 4))) (dgName 11))
    (dTupP 7 (dVar 10) (dTup (dCons (dOp rdAdd (dVar 8) (dVar 11)) (dCons (dOp rdAdd (dVar 9) (dVar 11)) dNil))))) dNext)))
    (dRet (dLc (diSq (dCall f_bounds (dCons (dVar 3) dNil))) (dgName 12) dYes (dTupG 7 (dVar 12)) [12])))))
theorem rd_stood : Rd 13 f_stood b_stood := by
  rintro XX ds Q ⟨_, _, _, _, rfl, t, r, a, b, sg, t2, rfl, rfl, rfl, rfl, hl, hl2, hQ⟩
  simp [b_stood, ini, eCh]
  have hbl : (boundsL t).length ≤ t.length := by unfold boundsL; rw [bnd_len]; exact partsL_len t
  have hbl2 : (boundsL t2).length ≤ t2.length := by unfold boundsL; rw [bnd_len]; exact partsL_len t2
  refine for_listS ((boundsL t).zip r) (fun q => D.tup [eP q.1, eO q.2]) (k := .sf) (fun m : TN => [.v false (.lst (t.map .int)), .v false (eR r), .v false (.tup [.str ("put" : Str), eN a, eN b, .lst (sg.map .int)]), .v false (.lst (t2.map .int)), .v false (eN a), .v false (eN b), .v false (.lst (sg.map .int)), .ho (.dT (encN m)), .e, .e, .e, .e, .e])
    (fun p m => m = p.foldl (stS a b sg.length) []) [] rfl (fun Q h => by
      simp [f_bounds, eR]
      refine ⟨hl, ?_⟩
      rw [zpD_map]
      exact h) rfl rfl (fun p q r' m e h => ?_) fun m h => ?_
  · have hml : m.length ≤ 2 * p.length := by
      have := stF_len a b sg.length p []
      rw [← h] at this
      simpa using this
    have hpl : p.length ≤ 1000 := by
      have := congrArg List.length e
      simp at this
      omega
    rw [List.foldl_append, ← h]
    have he : encN m = encT (m.map fun q => (q.1, oI q.2)) := rfl
    clear h
    obtain ⟨⟨lo, hi⟩, f⟩ := q
    have step1 : encT (putT (m.map fun q => (q.1, oI q.2)) ((lo : Int), (hi : Int)) (oI f)) = encN (putT m ((lo : Int), (hi : Int)) f) := by
      unfold encN
      rw [putT_map oI]
    have step2 : ∀ m1 : TN, encT (putT (m1.map fun q => (q.1, oI q.2)) ((lo : Int) + moreI a b sg.length, (hi : Int) + moreI a b sg.length) (oI f)) = encN (putT m1 ((lo : Int) + moreI a b sg.length, (hi : Int) + moreI a b sg.length) f) := fun m1 => by
      unfold encN
      rw [putT_map oI]
    have hst : ∀ c1 : hi ≤ a, ∀ c2 : b ≤ lo, stS a b sg.length m ((lo, hi), f) = putT (putT m ((lo : Int), (hi : Int)) f) ((lo : Int) + moreI a b sg.length, (hi : Int) + moreI a b sg.length) f := fun c1 c2 => by unfold stS; simp [c1, c2]
    have hst2 : ∀ c1 : hi ≤ a, ∀ c2 : ¬ b ≤ lo, stS a b sg.length m ((lo, hi), f) = putT m ((lo : Int), (hi : Int)) f := fun c1 c2 => by unfold stS; simp [c1, c2]
    have hst3 : ∀ c1 : ¬ hi ≤ a, ∀ c2 : b ≤ lo, stS a b sg.length m ((lo, hi), f) = putT m ((lo : Int) + moreI a b sg.length, (hi : Int) + moreI a b sg.length) f := fun c1 c2 => by unfold stS; simp [c1, c2]
    have hst4 : ∀ c1 : ¬ hi ≤ a, ∀ c2 : ¬ b ≤ lo, stS a b sg.length m ((lo, hi), f) = m := fun c1 c2 => by unfold stS; simp [c1, c2]
    have hp2 := putT_len m ((lo : Int), (hi : Int)) f
    simp [eP, eN]
    by_cases c1 : hi ≤ a
    · refine .inr ⟨c1, _, he, by simp; omega, oI f, by simp, (lo : Int), (hi : Int), rfl, ?_⟩
      rw [step1]
      by_cases c2 : b ≤ lo
      · refine .inr ⟨c2, _, rfl, by simp; omega, oI f, by simp, _, _, rfl, ?_⟩
        rw [hst c1 c2]
        exact step2 _
      · exact .inl ⟨by omega, by rw [hst2 c1 c2]⟩
    · refine .inl ⟨by omega, ?_⟩
      by_cases c2 : b ≤ lo
      · refine .inr ⟨c2, _, rfl, by simp; omega, oI f, by simp, _, _, rfl, ?_⟩
        rw [hst3 c1 c2]
        exact step2 _
      · exact .inl ⟨by omega, by rw [hst4 c1 c2]⟩
  · subst h
    simp only [s_dRet]
    refine lc_go ?_
    simp
    refine ⟨_, rfl, t2, rfl, hl2, ?_⟩
    simp
    refine lc_map (boundsL t2) eP (k := .fr) .fr (fun p => eO ((getT (stM t r a b sg.length) ((p.1 : Int), (p.2 : Int))).getD none)) rfl (fun Qi h => by simpa using h) (by omega) rfl (by decide) (fun p hp K hk => ?_) ?_
    · simp [wipeR]
      refine ⟨_, rfl, (p.1 : Int), (p.2 : Int), rfl, ?_⟩
      have e : getT ((((boundsL t).zip r).foldl (stS a b sg.length) []).map fun q => (q.1, oI q.2)) ((p.1 : Int), (p.2 : Int)) = (getT (stM t r a b sg.length) ((p.1 : Int), (p.2 : Int))).map oI := getT_map oI _ _
      rw [e]
      have e2 : kD (((getT (stM t r a b sg.length) ((p.1 : Int), (p.2 : Int))).map oI).getD none) = eO ((getT (stM t r a b sg.length) ((p.1 : Int), (p.2 : Int))).getD none) := by
        cases getT (stM t r a b sg.length) ((p.1 : Int), (p.2 : Int)) with
        | none => rfl
        | some o => simp
      rw [e2]
      exact hk _ (kf (by simp))
    · simp
      have e : eR (stoodL t r a b sg.length t2) = .lst ((boundsL t2).map fun p => eO ((getT (stM t r a b sg.length) ((p.1 : Int), (p.2 : Int))).getD none)) := by
        unfold eR stoodL
        rw [List.map_map]
        rfl
      rw [← e]
      exact hQ
end HD

set_option Elab.async false
set_option linter.all false
set_option maxRecDepth 100000
set_option maxHeartbeats 1000000
/-! readings: rows mended, whole -/
namespace HD
open PySem PySem.Spec PyProof.Rows L2
def chF (fs : List Face) : Chg → List Face
  | .goes k => woL fs k
  | .put _ _ _ => fs
def chT (t : List Int) : Chg → List Int
  | .goes _ => t
  | .put a b sg => t.take a ++ sg ++ t.drop b
def wantsL (t : List Int) (r : List (Option Nat)) : Chg → List (Option Nat)
  | .goes _ => r
  | .put a b sg => stoodL t r a b sg.length (chT t (.put a b sg))
def mendL (fs : List Face) (t : List Int) (r : List (Option Nat)) (ch : Chg) : List (Option Nat) := bestL (chF fs ch) (everyL (chF fs ch) (chT t ch)) (wantsL t r ch)
def f_mended : DSp := dsp4 fun x y z w Q => ∃ (fs : List Face) (t : List Int) (r : List (Option Nat)) (ch : Chg), x = .obj (fs.map eF) ∧ y = .lst (t.map .int) ∧ z = eR r ∧ w = eCh ch ∧ FacesOk fs ∧ t.length ≤ 500 ∧ TextOk t ∧ RowE (everyL fs t) r ∧ ChgOk fs.length t ch ∧
  Q (.tup [.obj ((chF fs ch).map eF), .lst ((chT t ch).map .int), eR (mendL fs t r ch)])
-- mended(case, text, row, change): 0 case 1 text 2 row 3 change 4 other 5 fresh 6 wants
@[reducible] def b_mended : DTS :=
  (dSeq (dDrop (dCall f_need_signs2 (dCons (dVar 1) dNil)))
    (dSeq (dDrop (dCall f_need_row (dCons (dCall f_all_choices (dCons (dVar 0) (dCons (dVar 1) dNil))) (dCons (dVar 2) dNil))))
    (dSeq (dDrop (dCall f_need_change (dCons (dVar 0) (dCons (dVar 1) (dCons (dVar 3) dNil)))))
    (dSeq (dIfS (dB (dOp rdEq (dOp rdIx (dVar 3) (dC (.int 0))) (dC (.str ("goes" : Str))))) (dSeq (dAsg (dCall f_without (dCons (dVar 0) (dCons (dOp rdIx (dVar 3) (dC (.int 1))) dNil))) (dgName 4))
    (dRet (dTup (dCons (dVar 4) (dCons (dCB rdList (dCons (dVar 1) dNil)) (dCons (dCall f_best_row (dCons (dVar 4) (dCons (dCall f_all_choices (dCons (dVar 4) (dCons (dVar 1) dNil))) (dCons (dCB rdList (dCons (dVar 2) dNil)) dNil)))) dNil)))))) dNext)
    (dSeq (dAsg (dOp rdAdd (dOp rdAdd (dCB rdList (dCons (dSl (dVar 1) dNo (dPt (dOp rdIx (dVar 3) (dC (.int 1))))) dNil)) (dCB rdList (dCons (dOp rdIx (dVar 3) (dC (.int 3))) dNil))) (dCB rdList (dCons (dSl (dVar 1) (dPt (dOp rdIx (dVar 3) (dC (.int 2)))) dNo) dNil))) (dgName 5))
    (dSeq (dAsg (dCall f_stood (dCons (dVar 1) (dCons (dVar 2) (dCons (dVar 3) (dCons (dVar 5) dNil))))) (dgName 6))
    (dRet (dTup (dConsF (dVar 0) (dCons (dVar 5) (dCons (dCall f_best_row (dConsF (dVar 0) (dCons (dCall f_all_choices (dConsF (dVar 0) (dCons (dVar 5) dNil))) (dCons (dVar 6) dNil)))) dNil)))))))))))
theorem chT_len {n : Nat} {t : List Int} {ch : Chg} (h : ChgOk n t ch) : (chT t ch).length ≤ t.length + 300 := by
  cases ch with
  | goes k => simp [chT]
  | put a b sg =>
    obtain ⟨h1, h2, h3, h4⟩ := h
    simp [chT]
    omega
theorem chT_ok {n : Nat} {t : List Int} {ch : Chg} (ht : TextOk t) (h : ChgOk n t ch) : TextOk (chT t ch) := by
  cases ch with
  | goes k => exact ht
  | put a b sg =>
    intro s hs
    simp [chT] at hs
    rcases hs with hs | hs | hs
    · exact ht s (List.mem_of_mem_take hs)
    · exact h.2.2.1 s hs
    · exact ht s (List.mem_of_mem_drop hs)
theorem chF_ok {fs : List Face} {ch : Chg} (h : FacesOk fs) : FacesOk (chF fs ch) := by
  cases ch with
  | goes k => exact wo_ok h
  | put a b sg => exact h
@[simp] theorem cutD_mI {l : List Int} {a b : Option Int} : cutD (l.map D.int) a b = (cutD l a b).map D.int := cutD_map
theorem call_best_row {XX : Exn → Prop} {Q : D → Prop} {fs : List Face} {t : List Int} {w : List (Option Nat)} (hf : FacesOk fs) (ht : t.length ≤ 1000) (h : Q (eR (bestL fs (everyL fs t) w))) : f_best_row XX [.obj (fs.map eF), .lst ((everyL fs t).map eL), eR w] Q :=
  ⟨_, _, _, rfl, fs, everyL fs t, w, rfl, rfl, rfl, by have := every_len fs t; omega, every_ok (by have := hf.len; omega), h⟩
theorem call_all_choices {XX : Exn → Prop} {Q : D → Prop} {fs : List Face} {t : List Int} (hf : FacesOk fs) (ht : t.length ≤ 1000) (h : Q (.lst ((everyL fs t).map eL))) : f_all_choices XX [.obj (fs.map eF), .lst (t.map .int)] Q := ⟨_, _, rfl, fs, t, rfl, rfl, by have := hf.len; omega, ht, h⟩
theorem rd_mended : Rd 7 f_mended b_mended := by
  rintro XX ds Q ⟨_, _, _, _, rfl, fs, t, r, ch, rfl, rfl, rfl, rfl, hf, hl, ht, hr, hc, hQ⟩
  have h8 := hf.len
  simp [b_mended, ini]
  refine ⟨_, rfl, t, rfl, by omega, ht, ?_⟩
  refine ⟨_, _, rfl, fs, t, rfl, rfl, by omega, by omega, ?_⟩
  have hev := every_len fs t
  refine ⟨_, _, rfl, everyL fs t, r, rfl, rfl, hr, by omega, fun q hq => by have := every_q q hq; omega, ?_⟩
  refine ⟨_, _, _, rfl, fs, t, ch, rfl, rfl, rfl, by omega, hc, ?_⟩
  cases ch with
  | goes k =>
    have hk : k < fs.length := hc
    simp [eCh]
    refine ⟨by decide +kernel, _, _, rfl, fs, k, rfl, rfl, hk, hf, ?_⟩
    refine call_all_choices (wo_ok hf) (by omega) ?_
    unfold eR
    simp
    exact call_best_row (wo_ok hf) (by omega) hQ
  | put a b sg =>
    have hl2 := chT_len hc
    obtain ⟨h1, h2, h3, h4⟩ := hc
    simp [eCh]
    have e : (t.take a).map D.int ++ (sg.map D.int ++ (t.drop b).map D.int) = (chT t (.put a b sg)).map D.int := by simp [chT]
    refine ⟨by decide +kernel, by decide +kernel, .inl ⟨by decide, a, rfl, ?_, b, rfl, ?_, ?_⟩⟩
    · rw [cutD_to, List.length_take]; omega
    · rw [cutD_to, cutD_from, List.length_take, List.length_drop]; omega
    · rw [cutD_to, cutD_from, e]
      refine ⟨_, _, _, _, rfl, t, r, a, b, sg, chT t (.put a b sg), rfl, rfl, rfl, rfl, by omega, by omega, ?_⟩
      refine call_all_choices hf (by omega) ?_
      exact call_best_row hf (by omega) hQ
theorem call_mended {XX : Exn → Prop} {Q : D → Prop} {fs : List Face} {t : List Int} {r : List (Option Nat)} {d : D} (ch : Chg) (hd : d = eCh ch) (hf : FacesOk fs) (hl : t.length ≤ 500) (ht : TextOk t) (hr : RowE (everyL fs t) r) (hc : ChgOk fs.length t ch)
    (h : Q (.tup [.obj ((chF fs ch).map eF), .lst ((chT t ch).map .int), eR (mendL fs t r ch)])) : f_mended XX [.obj (fs.map eF), .lst (t.map .int), eR r, d] Q := by
  subst hd
  exact ⟨_, _, _, _, rfl, fs, t, r, ch, rfl, rfl, rfl, rfl, hf, hl, ht, hr, hc, h⟩
end HD

set_option Elab.async false
set_option linter.all false
set_option maxRecDepth 100000
set_option maxHeartbeats 1000000
/-! the least row, whatever is wanted; what can stay stays -/
namespace HD
open PySem PySem.Spec PyProof.Rows L2
def unl (w f : Option Nat) : Int := match f with
  | none => 0
  | some k => if w ≠ none ∧ w ≠ some k then 1 else 0
theorem costL_eq (fs : List Face) (f w : Option Nat) : costL fs f w = (unl w f, rankO fs f) := by
  cases f <;> rfl
def unlL (p : List Cand) (r : List (Option Nat)) : Int := ((p.zip r).map fun q => unl q.1.2 q.2).sum
theorem unlL_snoc {p : List Cand} {r : List (Option Nat)} {q : Cand} {f : Option Nat} (h : r.length = p.length) : unlL (p ++ [q]) (r ++ [f]) = unlL p r + unl q.2 f := by
  unfold unlL
  rw [List.zip_append h.symm]
  simp
def costW (fs : List Face) (p : List Cand) (r : List (Option Nat)) : Cost := ((changesL r : Int), unlL p r, ranksL fs r)
theorem way_cost (fs : List Face) : ∀ p : List Cand, ∀ r, RowOf p r → (wayOf fs p r).1 = costW fs p r := by
  refine snoc_ind (fun r hr => ?_) fun p q ih r hr => ?_
  · rw [show r = [] from hr]; rfl
  · obtain ⟨r', f, rfl, hr', hf⟩ := RowOf.snoc.mp hr
    have h := ih r' hr'
    unfold costW at h ⊢
    rw [wayOf_snoc fs q f hr'.len, changesL_snoc, ranksL_snoc, unlL_snoc hr'.len]
    show (_ + chgTo (wayOf fs p r').2 f, _, _) = _
    rw [wayOf_row fs hr'.len, h, costL_eq]
theorem way_eq (fs : List Face) {p : List Cand} {r : List (Option Nat)} (h : RowOf p r) : wayOf fs p r = (costW fs p r, r) := Prod.ext (way_cost fs p r h) (wayOf_row fs h.len)
/-- the least row: a row, none less -/
theorem best_spec (fs : List Face) {ev : List (List Nat)} {w : List (Option Nat)} (hw : w.length = ev.length) : RowE ev (bestL fs ev w) ∧ ∀ r, RowE ev r → ltW (costW fs (ev.zip w) r, r) (costW fs (ev.zip w) (bestL fs ev w), bestL fs ev w) = false := by
  refine ⟨bestL_row fs hw, fun r hr => ?_⟩
  obtain ⟨r0, hr0, e0⟩ := (least_all fs (ev.zip w)).1
  have hr' := (RowE_of hw).mpr hr
  have hl := (least_all fs (ev.zip w)).2 r hr'
  have e1 : bestL fs ev w = r0 := by unfold bestL; rw [e0, wayOf_row fs hr0.len]
  rw [e0, way_eq fs hr0, way_eq fs hr'] at hl
  rw [e1]
  exact hl
theorem rows_kin {ev : List (List Nat)} {a b : List (Option Nat)} (ha : RowE ev a) (hb : RowE ev b) : kin a b := by
  unfold kin
  apply List.ext_getElem?
  intro i
  rw [List.getElem?_map, List.getElem?_map]
  by_cases hi : i < ev.length
  · have h1 : i < a.length := by rw [ha.1]; exact hi
    have h2 : i < b.length := by rw [hb.1]; exact hi
    have e1 := ha.2 i _ _ (List.getElem?_eq_getElem hi) (List.getElem?_eq_getElem h1)
    have e2 := hb.2 i _ _ (List.getElem?_eq_getElem hi) (List.getElem?_eq_getElem h2)
    rw [List.getElem?_eq_getElem h1, List.getElem?_eq_getElem h2]
    simp only [Option.map_some]
    rw [cands_some e1, cands_some e2]
  · rw [List.getElem?_eq_none (by rw [ha.1]; omega), List.getElem?_eq_none (by rw [hb.1]; omega)]
theorem best_uniq (fs : List Face) {ev : List (List Nat)} {w b : List (Option Nat)} (hw : w.length = ev.length) (hb : RowE ev b) (h : ∀ r, RowE ev r → ltW (costW fs (ev.zip w) r, r) (costW fs (ev.zip w) b, b) = false) : bestL fs ev w = b := by
  obtain ⟨h1, h2⟩ := best_spec fs hw
  have q := ltW_total (a := (costW fs (ev.zip w) (bestL fs ev w), bestL fs ev w)) (b := (costW fs (ev.zip w) b, b)) (rows_kin h1 hb) (h _ h1) (h2 _ hb)
  exact congrArg Prod.snd q
theorem unl_nn (w f : Option Nat) : 0 ≤ unl w f := by
  unfold unl
  split
  · omega
  · split <;> omega
theorem unlL_nn : ∀ (p : List Cand) (r : List (Option Nat)), 0 ≤ unlL p r
  | [], _ => by simp [unlL]
  | _ :: _, [] => by simp [unlL]
  | q :: p, f :: r => by
    have h1 := unlL_nn p r
    have h2 := unl_nn q.2 f
    unfold unlL at h1 ⊢
    simp
    omega
theorem unlL_zero : ∀ (ev : List (List Nat)) (w r : List (Option Nat)), (∀ (i : Nat) x y, w[i]? = some x → r[i]? = some y → x = none ∨ x = y) → unlL (ev.zip w) r = 0
  | [], _, _, _ => by simp [unlL]
  | _ :: _, [], _, _ => by simp [unlL]
  | _ :: _, _ :: _, [], _ => by simp [unlL]
  | e :: ev, x :: w, y :: r, h => by
    have h1 := unlL_zero ev w r fun i x y hx hy => h (i + 1) x y (by simpa using hx) (by simpa using hy)
    have h2 : unl x y = 0 := by
      rcases h 0 x y rfl rfl with e | e
      · subst e; cases y <;> simp [unl]
      · subst e; cases x <;> simp [unl]
    unfold unlL at h1 ⊢
    simp
    omega
theorem unlL_all : ∀ (ev : List (List Nat)) (w r : List (Option Nat)), RowE ev r → RowE ev w → unlL (ev.zip w) r = 0 → r = w
  | [], w, r, h1, h2, _ => by
    have e1 : r = [] := List.eq_nil_of_length_eq_zero h1.1
    have e2 : w = [] := List.eq_nil_of_length_eq_zero h2.1
    rw [e1, e2]
  | e :: ev, w, r, h1, h2, h3 => by
    cases w with
    | nil => have := h2.1; simp at this
    | cons x w =>
      cases r with
      | nil => have := h1.1; simp at this
      | cons y r =>
        have n1 := unlL_nn (ev.zip w) r
        have n2 := unl_nn x y
        have h4 : unl x y + unlL (ev.zip w) r = 0 := by
          unfold unlL at h3 ⊢
          simpa using h3
        have r1 : RowE ev r := ⟨by have := h1.1; simpa using this, fun i q f hq hf => h1.2 (i + 1) q f (by simpa using hq) (by simpa using hf)⟩
        have r2 : RowE ev w := ⟨by have := h2.1; simpa using this, fun i q f hq hf => h2.2 (i + 1) q f (by simpa using hq) (by simpa using hf)⟩
        have q1 := h1.2 0 e y rfl rfl
        have q2 := h2.2 0 e x rfl rfl
        rw [unlL_all ev w r r1 r2 (by omega)]
        have e0 : unl x y = 0 := by omega
        have : y = x := by
          unfold cands at q1 q2
          by_cases he : e = []
          · rw [if_pos he] at q1 q2
            rw [List.mem_singleton.mp q1, List.mem_singleton.mp q2]
          · rw [if_neg he] at q1 q2
            obtain ⟨k, hk, rfl⟩ := List.mem_map.mp q1
            obtain ⟨j, hj, rfl⟩ := List.mem_map.mp q2
            unfold unl at e0
            simp at e0
            rw [e0]
        rw [this]
/-- what stands, and has the fewest changes, stays -/
theorem best_keep (fs : List Face) {ev : List (List Nat)} {w : List (Option Nat)} (hw : RowE ev w) (h : ∀ r, RowE ev r → changesL w ≤ changesL r) : bestL fs ev w = w := by
  refine best_uniq fs hw.1 hw fun r hr => ?_
  have hz : unlL (ev.zip w) w = 0 := unlL_zero ev w w fun i x y hx hy => .inr (by rw [hx] at hy; exact Option.some.inj hy)
  cases hc : ltW (costW fs (ev.zip w) r, r) (costW fs (ev.zip w) w, w) with
  | false => rfl
  | true =>
    exfalso
    have h1 := h r hr
    have h2 := unlL_nn (ev.zip w) r
    rw [ltW_iff, ltC_iff] at hc
    unfold costW at hc
    simp only [hz] at hc
    have key : unlL (ev.zip w) r = 0 → r = w := unlL_all ev w r hr hw
    rcases hc with ⟨e, hlt⟩ | ⟨ne, hlt⟩
    · have e2 := key (congrArg (fun c : Cost => c.2.1) e)
      subst e2
      rw [ltR_irr] at hlt
      cases hlt
    · rcases hlt with hlt | ⟨e1, hlt | ⟨e2, hlt⟩⟩
      · omega
      · omega
      · have e3 := key e2
        subst e3
        omega
/-- the least row stays, whatever of it is wanted -/
theorem best_part (fs : List Face) {ev : List (List Nat)} {w : List (Option Nat)} (hl : w.length = ev.length) (h : ∀ (i : Nat) x y, w[i]? = some x → (bestL fs ev (nones ev.length))[i]? = some y → x = none ∨ x = y) : bestL fs ev w = bestL fs ev (nones ev.length) := by
  have hn : (nones ev.length).length = ev.length := by simp [nones]
  obtain ⟨b1, b2⟩ := best_spec fs hn
  refine best_uniq fs hl b1 fun r hr => ?_
  have q := b2 r hr
  have z0 : ∀ r, unlL (ev.zip (nones ev.length)) r = 0 := fun r => unlL_zero ev _ r fun i x y hx _ => .inl (by
    have := List.mem_of_getElem? hx
    simp [nones] at this
    exact this.2)
  have z1 : unlL (ev.zip w) (bestL fs ev (nones ev.length)) = 0 := unlL_zero ev w _ h
  have h2 := unlL_nn (ev.zip w) r
  generalize bestL fs ev (nones ev.length) = b at b1 b2 q z1
  cases hc : ltW (costW fs (ev.zip w) r, r) (costW fs (ev.zip w) b, b) with
  | false => rfl
  | true =>
    have hq : ¬ ltW (costW fs (ev.zip (nones ev.length)) r, r) (costW fs (ev.zip (nones ev.length)) b, b) = true := by rw [q]; simp
    rw [ltW_iff, ltC_iff] at hc hq
    unfold costW at hc hq
    simp only [z0, z1, ne_eq, Prod.mk.injEq, true_and, and_true, Int.lt_irrefl, false_or] at hc hq
    exfalso
    apply hq
    rcases hc with ⟨⟨e1, e2, e3⟩, hlt⟩ | ⟨ne, hlt⟩
    · exact .inl ⟨⟨e1, e3⟩, hlt⟩
    · rcases hlt with hlt | ⟨e1, hlt | ⟨e2, hlt⟩⟩
      · exact .inr ⟨fun z => by omega, .inl hlt⟩
      · omega
      · exact .inr ⟨fun z => by omega, .inr ⟨e1, hlt⟩⟩
/-! what stood, looked up -/
theorem getT_put {β : Type} (m : List ((Int × Int) × β)) (k k' : Int × Int) (v : β) : getT (putT m k v) k' = if k = k' then some v else getT m k' := by
  unfold putT
  split
  · rename_i h
    induction m with
    | nil => simp at h
    | cons q m ih =>
      unfold getT at ih ⊢
      rw [List.map_cons]
      by_cases hq : q.1 = k
      · rw [if_pos hq]
        by_cases hk : k = k'
        · subst hk
          rw [List.find?_cons_of_pos (by simp [hq])]
          simp
        · rw [if_neg hk]
          have : ∀ l : List ((Int × Int) × β), ((l.map fun q => if q.1 = k then (q.1, v) else q).find? fun q => decide (q.1 = k')).map (·.2) = (l.find? fun q => decide (q.1 = k')).map (·.2) := fun l => by
            induction l with
            | nil => rfl
            | cons x l ihl =>
              rw [List.map_cons]
              by_cases hx : x.1 = k
              · rw [if_pos hx, List.find?_cons_of_neg (by simp [hx, hk]), List.find?_cons_of_neg (by simp [hx, hk])]
                exact ihl
              · rw [if_neg hx]
                by_cases hx2 : x.1 = k'
                · rw [List.find?_cons_of_pos (by simp [hx2]), List.find?_cons_of_pos (by simp [hx2])]
                · rw [List.find?_cons_of_neg (by simp [hx2]), List.find?_cons_of_neg (by simp [hx2])]
                  exact ihl
          rw [List.find?_cons_of_neg (by simp [hq, hk]), List.find?_cons_of_neg (by simp [hq, hk])]
          exact this m
      · rw [if_neg hq]
        have h' : (m.any fun q => decide (q.1 = k)) = true := by
          rw [List.any_cons] at h
          simpa [hq] using h
        have ih := ih h'
        by_cases hq2 : q.1 = k'
        · rw [List.find?_cons_of_pos (by simp [hq2]), List.find?_cons_of_pos (by simp [hq2])]
          rw [if_neg (fun z => hq (by rw [hq2, z]))]
        · rw [List.find?_cons_of_neg (by simp [hq2]), List.find?_cons_of_neg (by simp [hq2])]
          exact ih
  · rename_i h
    unfold getT
    rw [List.find?_append]
    by_cases hk : k = k'
    · subst hk
      have : (m.find? fun q => decide (q.1 = k)) = none := by
        rw [List.find?_eq_none]
        intro q hq hd
        apply h
        rw [List.any_eq_true]
        exact ⟨q, hq, hd⟩
      rw [this]
      simp
    · rw [if_neg hk]
      cases hf : m.find? fun q => decide (q.1 = k') with
      | some q => simp
      | none => simp [hk]
theorem bnd_pw : ∀ (cs : List (List Int)) (i : Nat), (∀ c ∈ cs, c ≠ []) → (bnd i cs).Pairwise (fun p q => p.2 ≤ q.1) ∧ ∀ p ∈ bnd i cs, i ≤ p.1 ∧ p.1 < p.2
  | [], _, _ => ⟨.nil, fun _ h => nomatch h⟩
  | c :: cs, i, h => by
    have hc : 0 < c.length := List.length_pos_iff.mpr (h c List.mem_cons_self)
    obtain ⟨h1, h2⟩ := bnd_pw cs (i + c.length) fun d hd => h d (List.mem_cons_of_mem _ hd)
    refine ⟨List.pairwise_cons.mpr ⟨fun q hq => (h2 q hq).1, h1⟩, fun p hp => ?_⟩
    rcases List.mem_cons.mp hp with e | hp
    · subst e
      exact ⟨Nat.le_refl _, by show i < i + c.length; omega⟩
    · have := h2 p hp
      omega
theorem bounds_pw (t : List Int) : (boundsL t).Pairwise (fun p q => p.2 ≤ q.1) ∧ ∀ p ∈ boundsL t, p.1 < p.2 := by
  obtain ⟨h1, h2⟩ := bnd_pw (partsL t) 0 fun c hc e => by
    obtain ⟨s, m, e2, _⟩ := (parts_Parts t).all c hc
    rw [e] at e2; cases e2
  exact ⟨h1, fun p hp => (h2 p hp).2⟩
theorem bounds_inj {t : List Int} {i j : Nat} {p q : Nat × Nat} (hi : (boundsL t)[i]? = some p) (hj : (boundsL t)[j]? = some q) (h : p.1 = q.1) : i = j := by
  obtain ⟨h1, h2⟩ := bounds_pw t
  rw [List.pairwise_iff_getElem] at h1
  obtain ⟨li, ei⟩ := List.getElem?_eq_some_iff.mp hi
  obtain ⟨lj, ej⟩ := List.getElem?_eq_some_iff.mp hj
  have m1 := h2 p (List.mem_of_getElem? hi)
  have m2 := h2 q (List.mem_of_getElem? hj)
  rcases Nat.lt_trichotomy i j with hl | hl | hl
  · have := h1 i j li lj hl
    rw [ei, ej] at this
    omega
  · exact hl
  · have := h1 j i lj li hl
    rw [ei, ej] at this
    omega
def putsOf (a b n : Nat) (q : (Nat × Nat) × Option Nat) : List ((Int × Int) × Option Nat) :=
  (if q.1.2 ≤ a then [(((q.1.1 : Int), (q.1.2 : Int)), q.2)] else []) ++ (if b ≤ q.1.1 then [(((q.1.1 : Int) + moreI a b n, (q.1.2 : Int) + moreI a b n), q.2)] else [])
def putF (m : TN) (x : (Int × Int) × Option Nat) : TN := putT m x.1 x.2
theorem stS_puts (a b n : Nat) (m : TN) (q) : stS a b n m q = (putsOf a b n q).foldl putF m := by
  unfold stS putsOf putF
  dsimp only
  split <;> split <;> rfl
theorem stM_puts (a b n : Nat) : ∀ (l : List ((Nat × Nat) × Option Nat)) (m : TN), l.foldl (stS a b n) m = (l.flatMap (putsOf a b n)).foldl putF m
  | [], _ => rfl
  | q :: l, m => by
    rw [List.foldl_cons, List.flatMap_cons, List.foldl_append, stS_puts, stM_puts a b n l]
theorem getT_none : ∀ (L : List ((Int × Int) × Option Nat)) (m : TN) (k : Int × Int), (∀ x ∈ L, x.1 ≠ k) → getT (L.foldl putF m) k = getT m k
  | [], _, _, _ => rfl
  | x :: L, m, k, h => by
    rw [List.foldl_cons, getT_none L _ k fun y hy => h y (List.mem_cons_of_mem _ hy)]
    unfold putF
    rw [getT_put, if_neg (h x List.mem_cons_self)]
theorem getT_some (v : Option Nat) : ∀ (L : List ((Int × Int) × Option Nat)) (m : TN) (k : Int × Int), (∀ x ∈ L, x.1 = k → x.2 = v) → (getT m k = some v ∨ ∃ x ∈ L, x.1 = k) → getT (L.foldl putF m) k = some v
  | [], _, _, _, h => by
    rcases h with h | ⟨x, hx, _⟩
    · exact h
    · cases hx
  | x :: L, m, k, h1, h2 => by
    rw [List.foldl_cons]
    refine getT_some v L _ k (fun y hy => h1 y (List.mem_cons_of_mem _ hy)) ?_
    unfold putF
    rw [getT_put]
    by_cases hx : x.1 = k
    · rw [if_pos hx]
      exact .inl (by rw [h1 x List.mem_cons_self hx])
    · rw [if_neg hx]
      rcases h2 with h2 | ⟨y, hy, e⟩
      · exact .inl h2
      · rcases List.mem_cons.mp hy with z | hy
        · rw [z] at e; exact absurd e hx
        · exact .inr ⟨y, hy, e⟩
/-- the cluster at q stands at p -/
def StandsAt (a b n : Nat) (q p : Nat × Nat) : Prop := (q = p ∧ q.2 ≤ a) ∨ ((q.1 : Int) + moreI a b n = p.1 ∧ (q.2 : Int) + moreI a b n = p.2 ∧ b ≤ q.1)
theorem puts_mem {a b n : Nat} {q : (Nat × Nat) × Option Nat} {x : (Int × Int) × Option Nat} {p : Nat × Nat} (hx : x ∈ putsOf a b n q) (hk : x.1 = ((p.1 : Int), (p.2 : Int))) : StandsAt a b n q.1 p ∧ x.2 = q.2 := by
  unfold putsOf at hx
  rcases List.mem_append.mp hx with hx | hx
  · split at hx
    · rename_i h
      rw [List.mem_singleton.mp hx] at hk ⊢
      simp only [Prod.mk.injEq] at hk
      exact ⟨.inl ⟨Prod.ext (by omega) (by omega), h⟩, rfl⟩
    · cases hx
  · split at hx
    · rename_i h
      rw [List.mem_singleton.mp hx] at hk ⊢
      simp only [Prod.mk.injEq] at hk
      exact ⟨.inr ⟨hk.1, hk.2, h⟩, rfl⟩
    · cases hx
theorem puts_has {a b n : Nat} {q : (Nat × Nat) × Option Nat} {p : Nat × Nat} (h : StandsAt a b n q.1 p) : ∃ x ∈ putsOf a b n q, x.1 = ((p.1 : Int), (p.2 : Int)) := by
  unfold putsOf
  rcases h with ⟨h1, h2⟩ | ⟨h1, h2, h3⟩
  · refine ⟨_, List.mem_append.mpr (.inl (by rw [if_pos h2]; exact List.mem_singleton.mpr rfl)), ?_⟩
    rw [h1]
  · refine ⟨_, List.mem_append.mpr (.inr (by rw [if_pos h3]; exact List.mem_singleton.mpr rfl)), ?_⟩
    rw [h1, h2]
theorem stands_one {t : List Int} {a b n : Nat} {i j : Nat} {q q' p : Nat × Nat} (hab : a ≤ b) (hp : p.1 < p.2) (hi : (boundsL t)[i]? = some q) (hj : (boundsL t)[j]? = some q') (h : StandsAt a b n q p) (h' : StandsAt a b n q' p) : i = j := by
  refine bounds_inj hi hj ?_
  unfold StandsAt moreI at h h'
  rcases h with ⟨h1, h2⟩ | ⟨h1, h2, h3⟩ <;> rcases h' with ⟨h4, h5⟩ | ⟨h4, h5, h6⟩
  · rw [h1, h4]
  · subst h1; omega
  · subst h4; omega
  · omega
/-- what a place is looked up as -/
theorem stood_at {t : List Int} {r : List (Option Nat)} {a b n : Nat} (hab : a ≤ b) {p : Nat × Nat} (hp : p.1 < p.2) {i : Nat} {q : Nat × Nat} {f : Option Nat} (hi : (boundsL t)[i]? = some q) (hf : r[i]? = some f) (h : StandsAt a b n q p) : (getT (stM t r a b n) ((p.1 : Int), (p.2 : Int))).getD none = f := by
  unfold stM
  rw [stM_puts]
  have key : getT ((((boundsL t).zip r).flatMap (putsOf a b n)).foldl putF []) ((p.1 : Int), (p.2 : Int)) = some f := by
   refine getT_some f _ _ _ (fun x hx hk => ?_) (.inr ?_)
   · obtain ⟨y, hy, hx⟩ := List.mem_flatMap.mp hx
     obtain ⟨j, hj, e⟩ := List.mem_iff_getElem.mp hy
     obtain ⟨h1, h2⟩ := puts_mem hx hk
     have hj2 : ((boundsL t).zip r)[j]? = some y := by rw [← e]; exact List.getElem?_eq_getElem hj
     rw [List.getElem?_zip_eq_some] at hj2
     have hij := stands_one hab hp hi hj2.1 h h1
     subst hij
     rw [h2]
     have := hj2.2
     rw [hf] at this
     exact (Option.some.inj this).symm
   · obtain ⟨x, hx, e⟩ := puts_has (q := (q, f)) h
     refine ⟨x, List.mem_flatMap.mpr ⟨(q, f), ?_, hx⟩, e⟩
     exact List.mem_of_getElem? (i := i) (by rw [List.getElem?_zip_eq_some]; exact ⟨hi, hf⟩)
  rw [key]
  rfl
theorem stood_no {t : List Int} {r : List (Option Nat)} {a b n : Nat} {p : Nat × Nat} (h : ∀ q ∈ boundsL t, ¬ StandsAt a b n q p) : (getT (stM t r a b n) ((p.1 : Int), (p.2 : Int))).getD none = none := by
  unfold stM
  rw [stM_puts]
  have key : getT ((((boundsL t).zip r).flatMap (putsOf a b n)).foldl putF []) ((p.1 : Int), (p.2 : Int)) = getT ([] : TN) ((p.1 : Int), (p.2 : Int)) := by
    refine getT_none _ _ _ fun x hx hk => ?_
    obtain ⟨y, hy, hx⟩ := List.mem_flatMap.mp hx
    obtain ⟨h1, _⟩ := puts_mem hx hk
    exact h y.1 (List.of_mem_zip (show (y.1, y.2) ∈ _ from hy)).1 h1
  rw [key]
  rfl
theorem stood_len {t t2 : List Int} {r : List (Option Nat)} {a b n : Nat} : (stoodL t r a b n t2).length = (boundsL t2).length := by
  unfold stoodL
  rw [List.length_map]
theorem bounds_len (t : List Int) : (boundsL t).length = (partsL t).length := bnd_len _ _
/-- the same text: what is not touched is wanted -/
theorem stood_same {t : List Int} {r : List (Option Nat)} {a b : Nat} (hab : a ≤ b) (hr : r.length = (boundsL t).length) {i : Nat} {x : Option Nat} (hx : (stoodL t r a b (b - a) t)[i]? = some x) : ∃ q f, (boundsL t)[i]? = some q ∧ r[i]? = some f ∧ ((q.2 ≤ a ∨ b ≤ q.1) → x = f) ∧ (¬ (q.2 ≤ a ∨ b ≤ q.1) → x = none) := by
  unfold stoodL at hx
  rw [List.getElem?_map] at hx
  obtain ⟨q, hq, rfl⟩ := Option.map_eq_some_iff.mp hx
  have hil := (List.getElem?_eq_some_iff.mp hq).1
  obtain ⟨f, hf⟩ : ∃ f, r[i]? = some f := ⟨_, List.getElem?_eq_getElem (by omega)⟩
  have hpq := (bounds_pw t).2 q (List.mem_of_getElem? hq)
  have hm : moreI a b (b - a) = 0 := by unfold moreI; omega
  refine ⟨q, f, hq, hf, fun h => ?_, fun h => ?_⟩
  · refine stood_at hab hpq hq hf ?_
    unfold StandsAt
    rw [hm]
    rcases h with h | h
    · exact .inl ⟨rfl, h⟩
    · exact .inr ⟨by omega, by omega, h⟩
  · refine stood_no fun q' hq' hs => h ?_
    obtain ⟨j, hj, e⟩ := List.mem_iff_getElem.mp hq'
    have hj2 : (boundsL t)[j]? = some q' := by rw [← e]; exact List.getElem?_eq_getElem hj
    unfold StandsAt at hs
    rw [hm] at hs
    rcases hs with ⟨e1, h1⟩ | ⟨h1, h2, h3⟩
    · rw [e1] at h1; exact .inl h1
    · exact .inr (by omega)
/-- nothing is put -/
theorem stood_id {t : List Int} {r : List (Option Nat)} (hr : r.length = (boundsL t).length) : stoodL t r 0 0 0 t = r := by
  apply List.ext_getElem?
  intro i
  by_cases hi : i < (boundsL t).length
  · obtain ⟨x, hx⟩ : ∃ x, (stoodL t r 0 0 0 t)[i]? = some x := ⟨_, List.getElem?_eq_getElem (by rw [stood_len]; exact hi)⟩
    obtain ⟨q, f, h1, h2, h3, h4⟩ := stood_same (a := 0) (b := 0) (Nat.le_refl _) hr hx
    rw [hx, h2, h3 (.inr (Nat.zero_le _))]
  · rw [List.getElem?_eq_none (by rw [stood_len]; omega), List.getElem?_eq_none (by omega)]
end HD

set_option Elab.async false
set_option linter.all false
set_option maxRecDepth 100000
set_option maxHeartbeats 1000000
/-! rows as values -/
namespace HD
open PySem PySem.Spec PyProof.Rows L2
section
variable {k k1 k2 : Kd} {r : List (Option Nat)} {Q : KQ} {neg : Bool} {d : D}
@[simp] theorem flat_eR : (eR r).flat = false := rfl
@[simp] theorem s_listR : rdList k [eR r] Q = Q .fr (eR r) := by unfold eR; simp
@[simp] theorem s_lenR : rdLen k [eR r] Q = Q .fr (.int r.length) := by unfold eR; simp
theorem any_eO (x : Option Nat) : ((r.map eO).any fun y => dEqS y (eO x)) = decide (x ∈ r) := by
  rw [List.any_map]
  have : ((fun y => dEqS y (eO x)) ∘ eO) = fun o : Option Nat => decide (o = x) := by funext o; simp
  rw [this]
  induction r with
  | nil => rfl
  | cons a r ih =>
    rw [List.any_cons, ih]
    by_cases h : a = x
    · simp [h]
    · have h2 : x ≠ a := fun z => h z.symm
      simp [h, h2]
theorem all_eO : (r.map eO).all D.scl = true := by
  rw [List.all_eq_true]
  intro d hd
  obtain ⟨o, _, rfl⟩ := List.mem_map.mp hd
  simp
@[simp] theorem s_inR {x : Option Nat} : rdIn neg k1 (eO x) k2 (eR r) Q = Q .fr (.bl (neg ^^ decide (x ∈ r))) := by
  unfold eR
  rw [s_inL, any_eO]
  simp [all_eO]
@[simp] theorem s_inRN {x : Nat} : rdIn neg k1 (eN x) k2 (eR r) Q = Q .fr (.bl (neg ^^ decide (some x ∈ r))) := s_inR (x := some x)
@[simp] theorem s_inRi {x : Nat} : rdIn neg k1 (.int (x : Int)) k2 (eR r) Q = Q .fr (.bl (neg ^^ decide (some x ∈ r))) := s_inR (x := some x)
@[simp] theorem s_inRn : rdIn neg k1 .non k2 (eR r) Q = Q .fr (.bl (neg ^^ decide (none ∈ r))) := s_inR (x := none)
@[simp] theorem s_ixR {i : Int} : rdIx k1 (eR r) k2 (.int i) Q = ∃ o, atI r i = some o ∧ Q k1 (eO o) := by
  unfold eR
  rw [s_ixL, atI_map]
  apply propext
  constructor
  · rintro ⟨d, h, q⟩
    obtain ⟨o, h1, rfl⟩ := Option.map_eq_some_iff.mp h
    exact ⟨o, h1, q⟩
  · rintro ⟨o, h, q⟩
    exact ⟨eO o, by rw [h]; rfl, q⟩
@[simp] theorem s_seqR : seqD (eR r) = some (r.map eO) := rfl
@[simp] theorem cmpTR {a : List Int} {n : Nat} : D.cmp (n + 2) (.tup [.lst (a.map .int), eR r]) = true := by simp
@[simp] theorem cmpTR60 {a : List Int} : D.cmp 60 (.tup [.lst (a.map .int), eR r]) = true := cmpTR
@[simp] theorem deqTR {a b : List Int} {s : List (Option Nat)} : deq (.tup [.lst (a.map .int), eR r]) (.tup [.lst (b.map .int), eR s]) = (decide (a = b) && decide (r = s)) := by
  unfold eR
  simp
@[simp] theorem deqR {s : List (Option Nat)} : deq (eR r) (eR s) = decide (r = s) := by
  unfold eR
  simp
@[simp] theorem cutTR {x y z : D} : cutD [x, y, z] (some 1) none = [y, z] := rfl
end
theorem cmp_face' {f : Face} {n : Nat} (h : NameOk f.name) : (eF f).cmp (n + 2) = true := by
  have := h.ok.2.1
  simp [eF, this]
theorem cmps_faces' {fs : List Face} {n : Nat} (h : ∀ f ∈ fs, NameOk f.name) : D.cmps (n + 2) (fs.map eF) = true := by
  rw [cmps_iff]
  intro d hd
  obtain ⟨f, hf, rfl⟩ := List.mem_map.mp hd
  exact cmp_face' (h f hf)
theorem cmps_faces59 {fs : List Face} (h : FacesOk fs) : D.cmps 59 (fs.map eF) = true := cmps_faces' (n := 57) h.nm
instance : DecidableEq Face := fun a b =>
  decidable_of_iff (a.name = b.name ∧ a.rank = b.rank ∧ a.signs = b.signs) (by cases a; cases b; simp)
@[simp] theorem deqF {f g : Face} : deq (eF f) (eF g) = decide (f = g) := by
  obtain ⟨a, b, c⟩ := f
  obtain ⟨x, y, z⟩ := g
  simp [eF]
@[simp] theorem esF {a b : List Face} : deqs (a.map eF) (b.map eF) = decide (a = b) := es_map (fun _ _ => deqF) a b
@[simp] theorem s_facesM {XX : Exn → Prop} {Q : D → Prop} {fs : List Face} : f_faces XX [.obj (fs.map eF)] Q = Q (.lst (fs.map eF)) := by
  apply propext
  constructor
  · rintro ⟨a, e, fs', rfl, h⟩
    injection e with e
    injection e with e
    have e2 := mapF_inj.mp e
    subst e2
    exact h
  · intro h
    exact ⟨_, rfl, fs, rfl, h⟩
theorem row_len' {fs : List Face} {t : List Int} {r : List (Option Nat)} (h : RowE (everyL fs t) r) : r.length ≤ t.length := by
  have := every_len fs t
  rw [h.1]; exact this
theorem shown_row (fs : List Face) (t : List Int) : RowE (everyL fs t) (shownL fs t) := bestL_row fs (by simp [nones])
theorem shown_few (fs : List Face) {t : List Int} {r : List (Option Nat)} (h : RowE (everyL fs t) r) : changesL (shownL fs t) ≤ changesL r := bestL_few fs (by simp [nones]) h
theorem every_blen (fs : List Face) (t : List Int) : (everyL fs t).length = (boundsL t).length := by rw [bounds_len]; simp [everyL]
theorem none_keep {fs : List Face} {t : List Int} {r : List (Option Nat)} (hr : RowE (everyL fs t) r) (h : changesL r = changesL (shownL fs t)) : mendL fs t r (.put 0 0 []) = r := by
  have e : chT t (.put 0 0 []) = t := by simp [chT]
  show bestL fs (everyL fs (chT t (.put 0 0 []))) (stoodL t r 0 0 0 (chT t (.put 0 0 []))) = r
  rw [e]
  rw [stood_id (by rw [hr.1, every_blen])]
  exact best_keep fs hr fun r' hr' => by rw [h]; exact shown_few fs hr'
end HD

set_option Elab.async false
set_option linter.all false
set_option maxRecDepth 100000
set_option maxHeartbeats 1000000
/-! for k in reversed(range(n)) -/
namespace HD
open PySem PySem.Spec PyProof.Rows L2
section
variable {G : Gp} {X : Cx} {E : Type} {te : DTE} {r : Option Addr}
theorem walk_rvr {n : Nat} {lo : Int} (h0 : lo = (n : Int) - 1) : WalkD G r (Itc lo (-1) n) [] [] (rgD 0 n).reverse := fun P H hP hr h i => by
  refine ⟨fun d hd => ?_, fun hi => by rw [List.length_reverse, rgD_len] at hi; exact hi⟩
  have hi : i < (rgD 0 n).length := by have := (List.getElem?_eq_some_iff.mp hd).1; rw [List.length_reverse] at this; exact this
  rw [List.getElem?_reverse hi] at hd
  rw [rgD_len] at hi hd
  obtain ⟨h1, rfl⟩ := rgD_get hd
  refine ⟨hi, fun y H' ⟨e, f⟩ => ?_⟩
  subst e f h0
  refine ⟨.refl, hr, ?_⟩
  rw [show (n : Int) - 1 + (i : Int) * -1 = 0 + ((n - 1 - i : Nat) : Int) by omega]
  exact rep_int
def diRevRg (te : DTE) : DTI := fun XX ρ Q => te XX ρ fun _ d => ∃ j, d = .int j ∧ -(2 ^ 62) ≤ j ∧ j < 2 ^ 62 ∧ Q .fr (rgD 0 j.toNat).reverse
end
section
variable {G : Gp} {X : Cx} {te : DTE} {E : XK} {tg e : Expr}
theorem pid_revRange {p p2 pos pos2 : Pos} (hg : Gl X "reversed") (hm : X.mg "reversed" = none) (hg2 : Gl X "range") (hm2 : X.mg "range" = none) (he : PE X e (cE G E te)) (hs : starEach [.Call (.Name "range" p2) [e] [] pos2] X.env = [(false, eval (.Call (.Name "range" p2) [e] [] pos2) X.env)] := by rfl) (hs2 : starEach [e] X.env = [(false, eval e X.env)] := by rfl) :
    PI X tg (.Call (.Name "reversed" p) [.Call (.Name "range" p2) [e] [] pos2] [] pos) (cI G E (diRevRg te)) :=
  pi_weak (pi_revR hg hm (prg_1 hg2 hm2 he hs2) hs) fun σ H R h => by
  obtain ⟨H0, r, γ, ρ, XX, Q, env, q, hx, post⟩ := h
  refine cE_at (Now.start env) q hx fun v k d H1 ⟨j, e, h1, h2, q1⟩ e1 N1 r1 => ?_
  subst e
  refine ⟨j, rep_i r1, by decide, by decide, h1, h2, ?_⟩
  rw [show j - 0 = j from Int.sub_zero j]
  exact post _ .fr [] [] _ H1 q1 e1 N1.row .nil (walk_rvr (by omega))
@[simp] theorem s_revRg {XX : Exn → Prop} {ρ : Rho} {t : DTE} {Qi : Kd → List D → Prop} : diRevRg t XX ρ Qi = t XX ρ fun _ d => ∃ j, d = .int j ∧ -(2 ^ 62) ≤ j ∧ j < 2 ^ 62 ∧ Qi .fr (rgD 0 j.toNat).reverse := rfl
/-- the keys of a dict whose values are flat -/
def diKeyF (te : DTE) : DTI := fun XX ρ Q => te XX ρ fun _ d => ∃ o ks ds, d = .dic o ks ds ∧ D.flats ds = true ∧ Q .fr (ks.map kD)
theorem pid_keyF (he : PE X e (cE G E te)) : PI X tg e (cI G E (diKeyF te)) := by
  refine ⟨fun pins s σ H R I h => ?_⟩
  obtain ⟨H0, r, γ, ρ, XX, Q, env, q, hx, post⟩ := h
  have h' : cE G E te σ H (fun v H1 => ∃ o ks ds, Q .fr (ks.map kD) ∧ SameR r H H1 ∧ RowOk G.K r H1 ∧ Rep G r (Kd.fr.P H0 r (Mo γ σ ρ) H) H1 (.dic o ks ds) v) :=
    cE_at (Now.start env) q hx fun v k d H1 ⟨o, ks, ds, h1, hf, h2⟩ e1 N1 r1 => ⟨o, ks, ds, h2, e1, N1.row, by subst h1; exact Rep.flat _ v hf r1⟩
  refine thn (he.run pins s σ H _ I h') fun v s1 ⟨x, H1, I1, rv, o, ks, ds, h2, e1, hr, rd⟩ => ?_
  have c := env.cxt
  obtain ⟨a, u, xs, rfl, h3, hsm, g, h4⟩ := rep_dic rd
  cases rv
  obtain ⟨hgd, _⟩ := I1.hok a _ h3
  obtain ⟨es, ep, vs, hxd, hod, rvs, hl, nd, q2⟩ := id g
  have hsz : es.size = ks.length := by rw [← Array.length_toList, q2.len.2, q2.len.1]
  refine iter_keys hsm hgd hxd hod (pi_one (tk := s1.toks) I1 _ (turn_dic (tg := tg) _ hsm hxd hod q2) ⟨_, Heap.get?_push_size _ rfl, rfl, ?_⟩ (post _ .fr [.dic o ks ds] [.ref a] _ H1 h2 e1 hr (.one rd) walk_dic))
  rw [hsz] <;> rfl
@[simp] theorem s_keyF {XX : Exn → Prop} {ρ : Rho} {t : DTE} {Qi : Kd → List D → Prop} : diKeyF t XX ρ Qi = t XX ρ fun _ d => ∃ o ks ds, d = .dic o ks ds ∧ D.flats ds = true ∧ Qi .fr (ks.map kD) := rfl
end
end HD

set_option Elab.async false
set_option linter.all false
set_option maxRecDepth 100000
set_option maxHeartbeats 1000000
/-! isinstance(x, Case), x a case -/
namespace HD
open PySem PySem.Spec PyProof.Rows L2
section
variable {G : Gp} {X : Cx} {da : DTE} {E : XK} {e : Expr}
def dIsiC (da : DTE) : DTE := fun XX ρ Q => da XX ρ fun _ d => ∃ ds, d = .obj ds ∧ Q .fr (.bl true)
/-- what isinstance asks of the class -/
structure IsC (K : PySem.W.Frag) (C : Addr) : Prop where
  ha : PySem.W.findIn K (.ref C) "__class__" = some (some (.builtin "object.__class__"))
  hn : PySem.W.specialIn K (.builtin "object.__class__") "__get__" = some (some (.builtin "getset_descriptor.__get__"))
  ht : PySem.W.takesIn K (.builtin "object.__class__") = some true
  hm : PySem.W.mroIn K C (.type "object") = some true
theorem pd_isiC {m : Str} {p p2 pos : Pos} (hg : Gl X "isinstance") (hm : X.mg "isinstance" = none) (ha : PE X e (cE G E da)) (hg2 : Gl X m) (hm2 : X.mg m = some (.ref G.cC)) (c : Cls X.K G.cC) (w : IsC X.K G.cC) (hdb : (m == ("__debug__" : Str)) = false := by decide)
    (he : starEach [e, .Name m p2] X.env = (false, eval e X.env) :: starEach [.Name m p2] X.env := by rfl) (he2 : starEach [.Name m p2] X.env = (false, eval (.Name m p2) X.env) :: starEach [] X.env := by rfl) (hpl : (backTo pos (starEach [.Name m p2] X.env)).any (·.1) = false := by rfl) :
    PE X (.Call (.Name "isinstance" p) [e, .Name m p2] [] pos) (cE G E (dIsiC da)) := by
  refine pe_weak (pe_callB (pos := pos) (p := p) call_isi hg hm bt_isinstance (pa_cons ha (pa_cons (pe_glob (v := .ref G.cC) hg2 hm2 rfl hdb) pa_nil he2) he) (he := he) (hpl := hpl)) fun σ H Qv h => ?_
  obtain ⟨H0, r, γ, ρ, XX, Q, env, q, hx, post⟩ := h
  refine cE_at (Now.start env) q hx fun v k d H1 ⟨ds, h1, q1⟩ e1 N1 r1 => ?_
  subst h1
  unfold Rep at r1
  obtain ⟨a, dx, l, o, xs, rfl, h2, _, _⟩ := r1
  refine ⟨.ref a, .ref G.cC, .ref G.cC, .ref G.cC, true, rfl, .own _, .base (.ins h2 c w.ha w.hn w.ht w.hm), ?_, post _ _ _ _ q1 e1 N1.row rep_bl⟩
  unfold PySem.W.kitOne
  simp
@[simp] theorem s_isiC {XX : Exn → Prop} {ρ : Rho} {Q : KQ} : dIsiC da XX ρ Q = da XX ρ fun _ d => ∃ ds, d = .obj ds ∧ Q .fr (.bl true) := rfl
end
end HD

set_option Elab.async false
set_option linter.all false
set_option maxRecDepth 100000
set_option maxHeartbeats 1000000
/-! exceptions: made, raised -/
namespace HD
open PySem PySem.Spec PyProof.Rows L2
/-- what is told of FaceError, for FaceError.__init__(self, ..) -/
structure FeC (K : PySem.W.Frag) (F : Addr) : Prop where
  rd : PySem.W.readsIn K F (.type "type") = true
  ga : PySem.W.specialIn K (.ref F) "__getattribute__" = some (some (.builtin "type.__getattribute__"))
  at_ : PySem.W.findCls K (.ref F) (.type "type") "__init__" = some (.val (.builtin "ValueError.__init__"))
section
variable {X : Cx} {x : Str} {F : Addr} {e : Expr} {es : List Expr} {ta : TA} {p1 p2 pos : Pos}
theorem pe_feinit {pl : Sem Bool} (hg : Gl X x) (hm : X.mg x = some (.ref F)) (T : FeC X.K F) (ha : PA X (e :: es) ta) (hdb : (x == ("__debug__" : Str)) = false := by decide)
    (hc : eval (.Call (.Attribute (.Name x p1) "__init__" p2) (e :: es) [] pos) X.env = (do
      let ov ← eval (.Name x p1) X.env
      standAt p2.atName
      let (f, first) ← holding [ov] (getMethod ov "__init__" pl)
      callWith pos f first (backTo pos (starEach (e :: es) X.env)) (backToKw pos (keywordEach [] X.env))) := by rfl)
    (he : starEach (e :: es) X.env = (false, eval e X.env) :: starEach es X.env := by rfl) (hpl : (backTo pos (starEach es X.env)).any (·.1) = false := by rfl) :
    PE X (.Call (.Attribute (.Name x p1) "__init__" p2) (e :: es) [] pos) (tVeI X.K ta) := by
  refine ⟨fun pins s σ H Q I h => ?_⟩
  refine PySem.W.methodCall_KW (pl := pl) (ld_glob I hg hm ?_ hdb) hc
  refine PySem.W.method_cls I.kIn T.ga (PySem.W.cls_value I.kIn T.rd T.at_ (by decide +kernel) ?_)
  show wpAny _ _ (callWith pos (Value.builtin "ValueError.__init__") [] (backTo pos (starEach (e :: es) X.env)) []) _ _ _
  refine PyProof.Rows.callWith_method1 (thn (ha.run pos pins _ σ H _ (I.tok _) h) fun us s1 ⟨vs, H1, I1, r1, a, C, ws, ev, hl, T, ea, q⟩ => ?_) he hpl
  subst ev
  cases r1 with
  | @cons _ u0 _ ur ra rw' =>
    obtain rfl : u0 = Value.ref a := ra
    have hlen : ur.length ≤ sizeLine := by
      rw [← Paired.length rw', sizeLine_eq]
      omega
    exact oinit_ok T I1 ea hlen fun s' J => ⟨.non, H1, J, rfl, q⟩
end
/-- __init__(self, v): self.f = v -/
def spX1 (C : Addr) (f : Str) : Sp := fun vs H Q _ => ∃ a v, vs = [.ref a, v] ∧ H a = some (exo a C none) ∧ ∀ dx, H dx = none → dx ≠ a → Q .non (upd (upd H dx (exd dx [(f, v)])) a (exo a C (some dx)))
/-- __init__(self, v, w): self.f = v; self.g = w -/
def spX2 (C : Addr) (f g : Str) : Sp := fun vs H Q _ => ∃ a v w, vs = [.ref a, v, w] ∧ H a = some (exo a C none) ∧ ∀ dx, H dx = none → dx ≠ a → Q .non (upd (upd (upd H dx (exd dx [(f, v)])) a (exo a C (some dx))) dx (exd dx [(g, w), (f, v)]))
section
variable {P : Program} {w : World} {K : PySem.W.Frag} {mg : Str → Option Value} {base : Heap} {C : Addr} {f g : Str}
abbrev tX1 (K : PySem.W.Frag) (f : Str) : TS := tSeq (tDrop (tVeI K (tCons (tVar 0) (tCons (tVar 1) tNil)))) (tOst K f (tVar 0) (tVar 1))
abbrev tX2 (K : PySem.W.Frag) (f g : Str) : TS := tSeq (tDrop (tVeI K (tCons (tVar 0) (tCons (tVar 1) tNil)))) (tSeq (tOst K f (tVar 0) (tVar 1)) (tOst K g (tVar 0) (tVar 2)))
theorem x1_ok {vs : List V} {H : Hp} {Q : VK} {E : XK} {N : List Str} (hN : N.length = 2) (T : OexC K C) (hf : PySem.W.findIn K (.ref C) f = some none) (h : spX1 C f vs H Q E) : tX1 K f { nx := fun _ H' => Q .non H', rt := Q } (L2.start N vs) H := by
  obtain ⟨a, v, rfl, ha, q⟩ := h
  have e : L2.start N [.ref a, v] = [some (.ref a), some v] := by unfold L2.start; simp [hN]
  rw [e]
  refine ⟨.ref a, rfl, v, rfl, a, C, [v], rfl, by simp, T, ha, ?_⟩
  exact ⟨v, rfl, .ref a, rfl, a, C, rfl, T, hf, .inl ⟨ha, q⟩⟩
theorem x2_ok {vs : List V} {H : Hp} {Q : VK} {E : XK} {N : List Str} (hN : N.length = 3) (T : OexC K C) (hf : PySem.W.findIn K (.ref C) f = some none) (hg : PySem.W.findIn K (.ref C) g = some none) (h : spX2 C f g vs H Q E) : tX2 K f g { nx := fun _ H' => Q .non H', rt := Q } (L2.start N vs) H := by
  obtain ⟨a, v, w, rfl, ha, q⟩ := h
  have e : L2.start N [.ref a, v, w] = [some (.ref a), some v, some w] := by unfold L2.start; simp [hN]
  rw [e]
  refine ⟨.ref a, rfl, v, rfl, a, C, [v], rfl, by simp, T, ha, ?_⟩
  refine ⟨v, rfl, .ref a, rfl, a, C, rfl, T, hf, .inl ⟨ha, fun dx h1 h2 => ?_⟩⟩
  refine ⟨w, rfl, .ref a, rfl, a, C, rfl, T, hg, .inr ⟨dx, [(f, v)], upd_same, by rw [upd_ne h2]; exact upd_same, by simp, ?_⟩⟩
  exact q dx h1 h2
theorem fnX1 {qual : Str} {st : Stmt} {fa : Addr} {fd : FuncData} {N ps : List Str} (F : Fun K "__init__" qual st fa fd) (S : FnScope N ps (defScope st)) (hN : N.length = 2) (hp : ps.length = 2) (T : OexC K C) (hf : PySem.W.findIn K (.ref C) f = some none)
    (hb : ∀ (cdv : Value) (A : Around) (outer : List Env) (s : Shared) (H : Hp) (E : XK), PSs (cxOf CX0 P w K mg base N qual (defScope st) fa cdv A outer s H E).nox (defBody st) (tX1 K f)) :
    FnOk P w K mg base CX0 1 fa fd ps (spX1 C f) :=
  F.ok S (fun vs H Q E ⟨a, v, e, _⟩ => by rw [e, hp]; rfl) fun cdv A outer s H vs Q E _ h => ⟨_, hb cdv A outer s H E, x1_ok hN T hf h⟩
theorem fnX2 {qual : Str} {st : Stmt} {fa : Addr} {fd : FuncData} {N ps : List Str} (F : Fun K "__init__" qual st fa fd) (S : FnScope N ps (defScope st)) (hN : N.length = 3) (hp : ps.length = 3) (T : OexC K C) (hf : PySem.W.findIn K (.ref C) f = some none) (hg : PySem.W.findIn K (.ref C) g = some none)
    (hb : ∀ (cdv : Value) (A : Around) (outer : List Env) (s : Shared) (H : Hp) (E : XK), PSs (cxOf CX0 P w K mg base N qual (defScope st) fa cdv A outer s H E).nox (defBody st) (tX2 K f g)) :
    FnOk P w K mg base CX0 1 fa fd ps (spX2 C f g) :=
  F.ok S (fun vs H Q E ⟨a, v, w, e, _⟩ => by rw [e, hp]; rfl) fun cdv A outer s H vs Q E _ h => ⟨_, hb cdv A outer s H E, x2_ok hN T hf hg h⟩
end
/-- a class of exceptions as it is raised -/
structure XCls (P : Program) (w : World) (K : PySem.W.Frag) (mg : Str → Option Value) (base : Heap) (C : Addr) (x : Str) (ps : List Str) (sp : Sp) : Prop where
  T : OexC K C
  gm : mg x = some (.ref C)
  ex : ∃ fI fd, PySem.W.findIn K (.ref C) "__init__" = some (some (.ref fI)) ∧ PySem.W.typeIn K (.ref fI) = some (.type "function") ∧ Binds K fd ps [] ∧ FnOk P w K mg base CX0 1 fI fd ps sp
section
variable {G : Gp} {E : XK} {H0 H H' Hs : Hp} {r : Option Addr} {X : Cx} {σ : L2.St} {ρ : Rho} {γ : List Gh} {XX : Exn → Prop} {x : Str} {p pos pos2 : Pos} {e e2 : Expr} {dt : DTA} {C : Addr} {f g : Str} {ps : List Str}
/-- raise x(args): what is raised, by the arguments -/
def dRaise (rd : List D → Exn → Prop) (t : DTA) : DTS := fun XX _ ρ => t XX ρ fun _ ds => ∃ x, rd ds x ∧ XX x
def rdPlace (mk : Int → Exn) (ds : List D) (x : Exn) : Prop := ∃ p, ds = [.int p] ∧ x = mk p
def rdCase (ds : List D) (x : Exn) : Prop := ∃ w n, ds = [.str w, .int n] ∧ x = .case w n
theorem upd_del {H1 : Hp} {a dx : Addr} {o o' : HO} {u : HO} (ha : H1 a = none) (hne : dx ≠ a) : upd (del (upd (upd (upd H1 a o') dx o) a u) a) dx (HO.xd fs) = upd H1 dx (.xd fs) := by
  funext b
  by_cases hb : b = dx
  · rw [hb, upd_same, upd_same]
  · rw [upd_ne hb, upd_ne hb]
    by_cases hba : b = a
    · rw [hba, del_same, ha]
    · rw [del_ne hba, upd_ne hba, upd_ne hb, upd_ne hba]
theorem upd_del2 {H1 : Hp} {a dx : Addr} {o o2 o' : HO} {u : HO} (ha : H1 a = none) (hne : dx ≠ a) : upd (del (upd (upd (upd (upd H1 a o') dx o) a u) dx o2) a) dx (HO.xd fs) = upd H1 dx (.xd fs) := by
  funext b
  by_cases hb : b = dx
  · rw [hb, upd_same, upd_same]
  · rw [upd_ne hb, upd_ne hb]
    by_cases hba : b = a
    · rw [hba, del_same, ha]
    · rw [del_ne hba, upd_ne hb, upd_ne hba, upd_ne hb, upd_ne hba]
theorem psd_raise1 {mk : Int → Exn} (M : XCls X.prog X.w X.K X.mg X.base C x ps (spX1 C f)) (hr : Room 2 X.A) (hc : X.calm = true) (tk : Takes X (fun cls d _ H => E cls d H)) (ha : PA X [e] (cA G E dt))
    (hX : ∀ (H : Hp) (p : Int) (dd : Addr), H dd = some (.xd [(f, .int p)]) → XRep G H (mk p) (.ref C) (some dd)) (hg : Gl X x := by rfl) (hdb : (x == ("__debug__" : Str)) = false := by decide)
    (he : starEach [e] X.env = (false, eval e X.env) :: starEach [] X.env := by rfl) (hpl : (backTo pos (starEach [] X.env)).any (·.1) = false := by rfl) :
    PS X (.Raise (some (.Call (.Name x p) [e] [] pos)) none pos2) (cS G E (dRaise (rdPlace mk) dt)) := by
  obtain ⟨fI, fd, iC, tI, hb, F1⟩ := M.ex
  refine ps_weak (ps_raise hc tk (pmk_oex (sp := spX1 C f) M.T iC tI F1 hr hb .nil pass0 hg M.gm ha hdb he hpl)) fun D σ H h => ?_
  obtain ⟨H0, r, γ, ρ, XX, DD, env, q, hx, l⟩ := h
  refine cA_at (Now.start env) q hx fun vs k ds H1 ⟨xx, ⟨p, hds, hxx⟩, hXX⟩ e1 N1 r1 => ?_
  subst hds hxx
  obtain ⟨v, rfl, rv⟩ := reps1 r1
  cases rep_i rv
  refine ⟨by simp, fun a ha => ⟨a, .int p, rfl, upd_same, fun dx h1 h2 => ⟨rfl, dx, _, upd_same, by rw [upd_ne h2]; exact upd_same, ?_, ?_⟩⟩⟩
  · rw [upd_ne h2] at h1; exact h1
  · rw [upd_ne h2] at h1
    rw [upd_del ha h2]
    exact hx _ _ _ _ hXX ((env.ext.trans e1).trans (.new h1)) (N1.row.new h1) (hX _ _ _ upd_same)
theorem psd_raise2 (M : XCls X.prog X.w X.K X.mg X.base C x ps (spX2 C "word" "number")) (hr : Room 2 X.A) (hc : X.calm = true) (tk : Takes X (fun cls d _ H => E cls d H)) (ha : PA X [e, e2] (cA G E dt))
    (hX : C = G.xCase) (hg : Gl X x := by rfl) (hdb : (x == ("__debug__" : Str)) = false := by decide)
    (he : starEach [e, e2] X.env = (false, eval e X.env) :: starEach [e2] X.env := by rfl) (hpl : (backTo pos (starEach [e2] X.env)).any (·.1) = false := by rfl) :
    PS X (.Raise (some (.Call (.Name x p) [e, e2] [] pos)) none pos2) (cS G E (dRaise rdCase dt)) := by
  obtain ⟨fI, fd, iC, tI, hb, F1⟩ := M.ex
  refine ps_weak (ps_raise hc tk (pmk_oex (sp := spX2 C "word" "number") M.T iC tI F1 hr hb .nil pass0 hg M.gm ha hdb he hpl)) fun D σ H h => ?_
  obtain ⟨H0, r, γ, ρ, XX, DD, env, q, hx, l⟩ := h
  refine cA_at (Now.start env) q hx fun vs k ds H1 ⟨xx, ⟨w, n, hds, hxx⟩, hXX⟩ e1 N1 r1 => ?_
  subst hds hxx
  obtain ⟨v, v', rfl, rv, rv'⟩ := reps2 r1
  cases rep_s rv
  cases rep_i rv'
  refine ⟨by simp, fun a ha => ⟨a, .str w, .int n, rfl, upd_same, fun dx h1 h2 => ⟨rfl, dx, _, by rw [upd_ne (Ne.symm h2)]; exact upd_same, upd_same, ?_, ?_⟩⟩⟩
  · rw [upd_ne h2] at h1; exact h1
  · rw [upd_ne h2] at h1
    rw [upd_del2 ha h2]
    exact hx _ _ _ _ hXX ((env.ext.trans e1).trans (.new h1)) (N1.row.new h1) ⟨by rw [hX], dx, rfl, upd_same⟩
/-- a class without fields of its own -/
structure XCls0 (K : PySem.W.Frag) (mg : Str → Option Value) (C : Addr) (x : Str) : Prop where
  gm : mg x = some (.ref C)
  ex : PySem.W.excIn K C PySem.HandSPX.veTail "ValueError.__new__" = true
  kp : PySem.W.keepIn K (.ref C) = true
  sb : PySem.W.subIn K (.ref C) (.type "BaseException") = some true
  ty : PySem.W.typeIn K (.ref C) = some (.type "type")
def dRaiseC : DTS := fun XX _ _ => XX .change
theorem psd_raise0 {m : Str} {j : Nat} {p2 : Pos} (M : XCls0 X.K X.mg C x) (hc : X.calm = true) (tk : Takes X (fun cls d _ H => E cls d H)) (hX : C = G.xChange) (hg : Gl X x := by rfl) (hdb : (x == ("__debug__" : Str)) = false := by decide) :
    PS X (.Raise (some (.Call (.Name x p) [.Constant (.str m) j p2] [] pos)) none pos2) (cS G E dRaiseC) := by
  refine ps_weak (ps_raise hc tk (pmk_own PySem.F.excBase_ValueError M.ex M.gm M.kp (raises_own M.sb M.ty) hg hdb)) fun D σ H h => ?_
  obtain ⟨H0, r, γ, ρ, XX, DD, env, q, hx, l⟩ := h
  exact hx _ _ _ _ q env.ext env.row ⟨by rw [hX], rfl⟩
end
@[simp] theorem s_dRaise {rd : List D → Exn → Prop} {t : DTA} {XX : Exn → Prop} {DD : DEnds} {ρ : Rho} : dRaise rd t XX DD ρ = t XX ρ fun _ ds => ∃ x, rd ds x ∧ XX x := rfl
@[simp] theorem s_rdPlace {mk : Int → Exn} {p : Int} {x : Exn} : rdPlace mk [.int p] x ↔ x = mk p := ⟨fun ⟨_, e, h⟩ => by cases e; exact h, fun h => ⟨_, rfl, h⟩⟩
@[simp] theorem s_rdCase {w : Str} {n : Int} {x : Exn} : rdCase [.str w, .int n] x ↔ x = .case w n := ⟨fun ⟨_, _, e, h⟩ => by cases e; exact h, fun h => ⟨_, _, rfl, h⟩⟩
@[simp] theorem s_dRaiseC {XX : Exn → Prop} {DD : DEnds} {ρ : Rho} : dRaiseC XX DD ρ = XX .change := rfl
end HD

set_option Elab.async false
set_option linter.all false
set_option maxRecDepth 100000
set_option maxHeartbeats 1000000
/-! exceptions: caught, asked for their classes and fields -/
namespace HD
open PySem PySem.Spec PyProof.Rows L2
/-- a class that is asked for -/
inductive XC where
  | case | sign | row | change | text | value
def isEx : XC → Exn → Bool
  | .case, .case _ _ => true
  | .sign, .sign _ => true
  | .row, .row _ => true
  | .change, .change => true
  | .text, .text _ => true
  | .value, _ => true
  | _, _ => false
def clsOf (G : Gp) : Exn → Addr
  | .case _ _ => G.xCase
  | .sign _ => G.xSign
  | .row _ => G.xRow
  | .change => G.xChange
  | .text _ => G.xText
/-- a field, read -/
def xfld (f : Str) : Exn → Option D
  | .case w n => if f = ("word" : Str) then some (.str w) else if f = ("number" : Str) then some (.int n) else none
  | .sign p => if f = ("place" : Str) then some (.int p) else none
  | .row p => if f = ("place" : Str) then some (.int p) else none
  | .text p => if f = ("row" : Str) then some (.int p) else none
  | .change => none
structure ExcD (K : PySem.W.Frag) (C : Addr) : Prop where
  cl : (PySem.W.clsIn K C).isSome = true
  ga : PySem.W.findIn K (.ref C) "__getattribute__" = some (some (.builtin "BaseException.__getattribute__"))
  gt : PySem.W.findIn K (.ref C) "__getattr__" = some none
  sb : PySem.W.subIn K (.ref C) (.type "BaseException") = some true
  hd : PySem.W.hasDictIn K C = true
  cc : PySem.W.findIn K (.ref C) "__class__" = some (some (.builtin "object.__class__"))
  mo : PySem.W.mroIn K C (.type "object") = some true
  gn : PySem.W.specialIn K (.builtin "object.__class__") "__get__" = some (some (.builtin "getset_descriptor.__get__"))
  tk : PySem.W.takesIn K (.builtin "object.__class__") = some true
/-- what the written part says of the classes that may be caught -/
structure XAll (K : PySem.W.Frag) (G : Gp) (F : Addr) : Prop where
  d : ∀ x, ExcD K (clsOf G x)
  exm : ∀ x, PySem.W.exmOne K (.ref (clsOf G x)) (.ref F) = some true
  no : ∀ x f d, xfld f x = some d → PySem.W.findIn K (.ref (clsOf G x)) f = some none
theorem XRep.cls {G : Gp} {H : Hp} {x : Exn} {c : Value} {dd : Option Addr} (h : XRep G H x c dd) : c = .ref (clsOf G x) := by
  cases x <;> exact h.1
/-- the fields, in the heap -/
theorem XRep.fld {G : Gp} {H : Hp} {x : Exn} {c : Value} {dd : Option Addr} (h : XRep G H x c dd) : (x = .change ∧ dd = none) ∨ ∃ a fs, dd = some a ∧ H a = some (.xd fs) ∧ ∀ f d, xfld f x = some d → ∃ v, fs.lookup f = some v ∧ ∀ r P, Rep G r P H d v := by
  cases x with
  | change => exact .inl ⟨rfl, h.2⟩
  | case w n =>
    obtain ⟨_, a, h1, h2⟩ := h
    refine .inr ⟨a, _, h1, h2, fun f d e => ?_⟩
    dsimp only [xfld] at e
    split at e
    · rename_i hf; subst hf; cases e
      exact ⟨.str w, by rw [lookup_put, if_neg (by decide +kernel), lookup_put, if_pos rfl], fun _ _ => rep_str⟩
    · split at e
      · rename_i hf; subst hf; cases e
        exact ⟨.int n, by rw [lookup_put, if_pos rfl], fun _ _ => rep_int⟩
      · cases e
  | sign p =>
    obtain ⟨_, a, h1, h2⟩ := h
    refine .inr ⟨a, _, h1, h2, fun f d e => ?_⟩
    dsimp only [xfld] at e
    split at e
    · rename_i hf; subst hf; cases e
      exact ⟨.int p, by rw [lookup_put, if_pos rfl], fun _ _ => rep_int⟩
    · cases e
  | row p =>
    obtain ⟨_, a, h1, h2⟩ := h
    refine .inr ⟨a, _, h1, h2, fun f d e => ?_⟩
    dsimp only [xfld] at e
    split at e
    · rename_i hf; subst hf; cases e
      exact ⟨.int p, by rw [lookup_put, if_pos rfl], fun _ _ => rep_int⟩
    · cases e
  | text p =>
    obtain ⟨_, a, h1, h2⟩ := h
    refine .inr ⟨a, _, h1, h2, fun f d e => ?_⟩
    dsimp only [xfld] at e
    split at e
    · rename_i hf; subst hf; cases e
      exact ⟨.int p, by rw [lookup_put, if_pos rfl], fun _ _ => rep_int⟩
    · cases e
section
variable {G : Gp} {E : XK} {H0 H H' Hs : Hp} {r : Option Addr} {X : Cx} {σ : L2.St} {ρ : Rho} {γ : List Gh} {XX : Exn → Prop} {a F : Addr} {oe : Obj} {cls : Value} {dd : Option Addr} {pn : List (Addr × Obj)} {i : Nat} {n m : Str} {p p1 p2 pos : Pos}
/-- the caught exception as the library's instance -/
theorem xc_inst {pins : List (Addr × Obj)} {s : Shared} {x : Exn} (hz : Zc cls dd oe) (hf : ∃ vs, oe.data = .fields vs) (I : Inv (X.suite a ((a, oe) :: pn)) pins σ H s) (hx : XRep G H x cls dd) : ∃ od, PySem.W.InstAt s.heap a oe (clsOf G x) od := by
  obtain ⟨ha, _⟩ := I.pin (a, oe) (List.mem_append_left _ List.mem_cons_self)
  obtain ⟨vs, hd⟩ := hf
  have hc := hx.cls
  rcases hx.fld with ⟨_, h2⟩ | ⟨b, fs, h1, h2, _⟩
  · refine ⟨none, ?_⟩
    obtain ⟨oc, odd, oda, osl⟩ := oe
    obtain ⟨h3, h4⟩ := hz
    dsimp only at h3 h4 hd
    subst h3 hd
    rw [h2] at h4
    subst h4 hc
    exact ⟨ha, rfl, rfl, trivial⟩
  · subst h1
    obtain ⟨mA, hns, hr⟩ := (show ObjOk X.prog X.w H s.heap b (.xd fs) from I.hok b _ h2)
    obtain ⟨od, ho, hl⟩ := lookIn_ns hns
    exact ⟨some od, ha, by rw [hz.1, hc], by unfold PySem.W.notCls; rw [hd] <;> rfl, by rw [hz.2]; exact ho⟩
def rIsX (G : Gp) (K : PySem.W.Frag) (a : Addr) (cls : Value) (dd : Option Addr) : List V → Hp → VK → Prop := fun xs H Q => ∃ (x : Exn) (c : V) (cv : Value) (b : Bool), xs = [.ref a, c] ∧ (∀ u, RelV c u → u = cv) ∧ XRep G H x cls dd ∧ PySem.W.kitOne K (.ref (clsOf G x)) cv = some b ∧ Q (.bl b) H
theorem call_isX (A : XAll X.K G F) (hz : Zc cls dd oe) (hf : ∃ vs, oe.data = .fields vs) : CallR (X.suite a ((a, oe) :: pn)) (.builtin "isinstance") (rIsX G X.K a cls dd) := by
  intro pins s σ H xs us Q I r h
  obtain ⟨x, c, cv, b, rfl, hcv, hx, e, q⟩ := h
  cases r with
  | cons rx rr =>
    cases rr with
    | cons rt rr =>
      cases rr
      cases rx
      have ec := hcv _ rt
      subst ec
      obtain ⟨od, J⟩ := xc_inst hz hf I hx
      have D := A.d x
      exact PySem.W.kia_one (PySem.W.kitx_exc D.cl D.ga D.gt D.sb D.cc D.gn D.tk D.mo) I.kIn J e (fun z => nomatch z) fun tk => ⟨.bl b, H, I.kept (t' := tk) fun _ _ z => z, rfl, q⟩
/-- isinstance(e, C) in a suite -/
def dIsX (a : Addr) (cls : Value) (dd : Option Addr) (i : Nat) (c : XC) : DTE := fun XX ρ Q => ∃ x, ρ[i]? = some (.xc a cls dd x) ∧ Q .fr (.bl (isEx c x))
theorem xc_at (env : EnvOk G H0 r γ H σ ρ) {x : Exn} (h : ρ[i]? = some (.xc a cls dd x)) : σ[i]? = some (some (.ref a)) ∧ XRep G H x cls dd := by
  have il := (List.getElem?_eq_some_iff.mp h).1
  obtain ⟨u, hu⟩ : ∃ u, σ[i]? = some u := ⟨_, List.getElem?_eq_getElem (by rw [env.len]; exact il)⟩
  obtain ⟨h1, h2⟩ := env.sl i _ u h hu
  exact ⟨by rw [hu, h1], h2⟩
theorem pd_isX {c : XC} {cv : V} {cu : Value} (A : XAll X.K G F) (hz : Zc cls dd oe) (hf : ∃ vs, oe.data = .fields vs) (kit : ∀ x, PySem.W.kitOne X.K (.ref (clsOf G x)) cu = some (isEx c x)) (hcv : ∀ u, RelV cv u → u = cu)
    (hg : Gl X "isinstance") (hm : X.mg "isinstance" = none) (hv : PE (X.suite a ((a, oe) :: pn)) (.Name n p1) (tVar i)) (hc : PE (X.suite a ((a, oe) :: pn)) (.Name m p2) (tC cv))
    (he : starEach [.Name n p1, .Name m p2] X.env = (false, eval (.Name n p1) X.env) :: starEach [.Name m p2] X.env := by rfl) (he2 : starEach [.Name m p2] X.env = (false, eval (.Name m p2) X.env) :: starEach [] X.env := by rfl) (hpl : (backTo pos (starEach [.Name m p2] X.env)).any (·.1) = false := by rfl) :
    PE (X.suite a ((a, oe) :: pn)) (.Call (.Name "isinstance" p) [.Name n p1, .Name m p2] [] pos) (cE G E (dIsX a cls dd i c)) := by
  refine pe_weak (pe_callB (X := X.suite a ((a, oe) :: pn)) (pos := pos) (p := p) (call_isX A hz hf) hg hm bt_isinstance (pa_cons hv (pa_cons hc pa_nil he2) he) (he := he) (hpl := hpl)) fun σ H Qv h => ?_
  obtain ⟨H0, r, γ, ρ, XX, Q, env, ⟨x, hx, q⟩, hxx, post⟩ := h
  obtain ⟨h1, h2⟩ := xc_at env hx
  exact ⟨_, h1, x, cv, cu, _, rfl, hcv, h2, kit x, post _ _ _ _ q .refl env.row rep_bl⟩
/-- e.f in a suite -/
def dXf (a : Addr) (cls : Value) (dd : Option Addr) (i : Nat) (f : Str) : DTE := fun XX ρ Q => ∃ x d, ρ[i]? = some (.xc a cls dd x) ∧ xfld f x = some d ∧ Q .fr d
theorem pd_xf {f : Str} (A : XAll X.K G F) (hz : Zc cls dd oe) (hf : ∃ vs, oe.data = .fields vs) (hv : PE (X.suite a ((a, oe) :: pn)) (.Name n p1) (tVar i))
    (hb : attributeBase (.Name n p1) f X.env (eval (.Name n p1) X.env) = eval (.Name n p1) X.env := by rfl) :
    PE (X.suite a ((a, oe) :: pn)) (.Attribute (.Name n p1) f pos) (cE G E (dXf a cls dd i f)) := by
  refine ⟨fun pins s σ H Qv I h => ?_⟩
  obtain ⟨H0, r, γ, ρ, XX, Q, env, ⟨x, d, hx, hd, q⟩, hxx, post⟩ := h
  obtain ⟨h1, h2⟩ := xc_at env hx
  refine attr_of hb (thn (hv.run pins s σ H (fun v H1 => v = .ref a ∧ H1 = H) I ⟨_, h1, rfl, rfl⟩) fun u s1 hh => ?_)
  obtain ⟨v, H1, I1, rx, ex, eH⟩ := hh
  subst ex eH
  obtain rfl : u = Value.ref a := rx
  obtain ⟨ha, _⟩ := I1.pin (a, oe) (List.mem_append_left _ List.mem_cons_self)
  obtain ⟨vs, hdt⟩ := hf
  have D := A.d x
  rcases h2.fld with ⟨e, _⟩ | ⟨b, fs, h3, h4, h5⟩
  · subst e; cases hd
  · obtain ⟨w, hl, rw'⟩ := h5 f d hd
    subst h3
    obtain ⟨mA, hns, hr⟩ := (show ObjOk X.prog X.w H1 s1.heap b (.xd fs) from I1.hok b _ h4)
    obtain ⟨od, ho, hlk⟩ := lookIn_ns hns
    obtain ⟨u, hu, ru⟩ := RelO.some_of (v := w) (o := mA f) (by rw [← hl]; exact hr f)
    have J : PySem.W.InstAt s1.heap a oe (clsOf G x) (some od) := ⟨ha, by rw [hz.1, h2.cls], by unfold PySem.W.notCls; rw [hdt] <;> rfl, by rw [hz.2]; exact ho⟩
    exact PySem.HandSPX.exc_get I1.kIn J D.ga D.gt D.sb (PySem.W.findObj_own D.hd (A.no x f d hd) rfl (by rw [hlk, hu])) (handed_of ru) ⟨w, _, I1.tok _, ru, post _ _ _ _ q .refl env.row (rw' _ _)⟩
end
section
variable {G : Gp} {X : Cx} {x n : Str} {F : Addr} {i : Nat} {body suite : List Stmt} {b₀ : Stmt} {np pos pos' : Pos} {tb : DTS} {ts : Addr → Value → Option Addr → DTS}
/-- try: body / except F as n: suite; the suite returns -/
def dTry (i : Nat) (tb : DTS) (ts : Addr → Value → Option Addr → DTS) : DTS := fun _ DD ρ =>
  tb (fun x => ∀ a cls dd, ts a cls dd (fun _ => False) { nx := fun _ => False, rt := DD.rt } ((List.replicate ρ.length .e).set i (.xc a cls dd x))) DD ρ
/-- what the body wishes of an exception: the suite, whatever the slots hold -/
abbrev EXW (N : List Str) (W : WX) : XK := fun cls d H => ∀ σ, σ.length = N.length → W cls d σ H
theorem takes_any {W : WX} (t : Takes X W) : Takes X (fun cls d _ H => EXW X.N W cls d H) := fun u s' ⟨a, B, sI, pins, σ, H, cls, d, e, I, nb, up, sky, na, os, ag, w⟩ =>
  t u s' ⟨a, B, sI, pins, σ, H, cls, d, e, I, nb, up, sky, na, os, ag, w σ I.len⟩
theorem env_none {H0 H : Hp} {r : Option Addr} {σ : L2.St} {k : Nat} (hl : σ.length = k) (e : SameR r H0 H) (rt : ∀ a, r = some a → H0 a ≠ none) (hr : RowOk G.K r H) : EnvOk G H0 r [] H σ (List.replicate k .e) := by
  have no : ∀ {i : Nat} {s : Slot}, (List.replicate k Slot.e)[i]? = some s → s = .e := fun {i s} h => by
    rw [List.getElem?_replicate] at h
    split at h
    · cases h; rfl
    · cases h
  exact ⟨by rw [List.length_replicate]; exact hl, e, rt, hr, fun i s u h1 _ => by rw [no h1]; trivial, fun i j s t u w a h1 _ _ _ h3 _ => by rw [no h1] at h3; exact h3.elim, fun i s u a h1 _ h3 => by rw [no h1] at h3; exact h3.elim, fun g hg => nomatch hg⟩
theorem psd_try (hs : X.stack = X.env :: X.outer) (hf : X.env.frame = some X.env.locals) (hN : X.N.Nodup) (hi : X.N[i]? = some n) (hln : X.env.kindOf n = some .local) (hc : Names X x (.ref F)) (A : XAll X.K G F) {E : XK}
    (hb : ∀ (E' : XK) (pn : List (Addr × Obj)) (xe : Value → Shared → Prop), Takes (X.tr pn xe) (fun cls d _ H => E' cls d H) → PassesOwn (model X.prog X.w) X.A X.env xe → PSs (X.tr pn xe) body (cS G E' tb))
    (hsu : ∀ (a : Addr) (oe : Obj) (cls : Value) (d : Option Addr) (pn : List (Addr × Obj)), Zc cls d oe → (∃ vs, oe.data = .fields vs) → PSs (X.suite a ((a, oe) :: pn)) (b₀ :: suite) (cS G (fun _ _ _ => False) (ts a cls d))) :
    PS X (.Try body [.ExceptHandler (some (.Name x np)) (some n) (b₀ :: suite) pos'] [] [] pos) (cS G E (dTry i tb ts)) := by
  refine ⟨fun pins s σ H D I h => ?_⟩
  refine (ps_try_as (Wout := fun _ _ _ _ => False) (tb := fun W => cS G (EXW X.N W) tb) (ts := fun a cls d => cS G (fun _ _ _ => False) (ts a cls d)) hs hf hN hi hln hc (fun u s' ⟨_, _, _, _, _, _, _, _, _, _, _, _, _, _, _, _, z⟩ => z.elim)
    (fun W pn xe tk po => hb _ pn xe (takes_any tk) po) hsu).run pins s σ H D I ?_
  obtain ⟨H0, r, γ, ρ, XX, DD, env, q, hx, l⟩ := h
  refine ⟨H0, r, γ, ρ, _, DD, env, q, fun xx c dd H' hxx e hr hX σ' hl => ?_, l⟩
  refine ⟨true, by rw [hX.cls]; exact A.exm xx, fun _ a ha => ?_, fun z => absurd z (by decide)⟩
  have hlen : σ'.length = ρ.length := by rw [hl, ← env.len]; exact I.len.symm
  refine ⟨H0, r, [], _, _, _, EnvOk.setN (i := i) (s0 := .xc a c dd xx) (env_none hlen e env.rt hr) (fun _ z => z.elim) ⟨rfl, hX⟩, hxx a c dd, fun _ _ _ _ z => z.elim, ⟨fun _ _ _ _ z => z.elim, fun _ _ _ _ z => z.elim, fun _ _ _ _ z => z.elim, l.rt⟩⟩
@[simp] theorem s_dTry {XX : Exn → Prop} {DD : DEnds} {ρ : Rho} : dTry i tb ts XX DD ρ = tb (fun x => ∀ a cls dd, ts a cls dd (fun _ => False) { nx := fun _ => False, rt := DD.rt } ((List.replicate ρ.length .e).set i (.xc a cls dd x))) DD ρ := rfl
@[simp] theorem s_dIsX {XX : Exn → Prop} {ρ : Rho} {Q : KQ} {a : Addr} {cls : Value} {dd : Option Addr} {c : XC} : dIsX a cls dd i c XX ρ Q = ∃ x, ρ[i]? = some (.xc a cls dd x) ∧ Q .fr (.bl (isEx c x)) := rfl
@[simp] theorem s_dXf {XX : Exn → Prop} {ρ : Rho} {Q : KQ} {a : Addr} {cls : Value} {dd : Option Addr} {f : Str} : dXf a cls dd i f XX ρ Q = ∃ x d, ρ[i]? = some (.xc a cls dd x) ∧ xfld f x = some d ∧ Q .fr d := rfl
end
end HD

set_option Elab.async false
set_option linter.all false
set_option maxRecDepth 100000
set_option maxHeartbeats 1000000
/-! what the end hands to the rules of exceptions -/
namespace HD
open PySem PySem.Spec PyProof.Rows L2
section
variable {P : Program} {w : World} {K : PySem.W.Frag} {mg : Str → Option Value} {base : Heap} {G : Gp} {k : Nat} {x : Str} {ps : List Str} {fn : DSp}
theorem Cal.nx (C : Cal P w K mg base (L2.CX P w) k x ps (spD G fn)) : Cal P w K mg base CX0 k x ps (spD G (nx fn)) := by
  obtain ⟨f, fd, h1, h2, h3, h4⟩ := C.ex
  exact ⟨f, fd, h1, h2, h3, HD.FnOk.nx h4⟩
end
section
variable {X : Cx} {G : Gp} {E : XK} {k : Nat} {x : Str} {ps : List Str} {p pos : Pos} {e : Expr} {es : List Expr} {dt : DTA} {fn : DSp}
/-- a call of a def that may raise, where it does not -/
theorem pd_callN (C : Cal X.prog X.w X.K X.mg X.base (L2.CX X.prog X.w) k x ps (spD G fn)) (hr : Room k X.A) (ha : PA X (e :: es) (cA G E dt)) (hg : Gl X x := by rfl) (hdb : (x == ("__debug__" : Str)) = false := by decide)
    (he : starEach (e :: es) X.env = (false, eval e X.env) :: starEach es X.env := by rfl) (hpl : (backTo pos (starEach es X.env)).any (·.1) = false := by rfl) :
    PE X (.Call (.Name x p) (e :: es) [] pos) (cE G E (dCall fn dt)) := pd_call (fn := nx fn) C.nx hr ha hg hdb he hpl
end
/-- what is told of each class of exceptions -/
structure XK1 (K : PySem.W.Frag) (C F : Addr) : Prop where
  ic : PySem.W.isClsIn K C = true
  ty : PySem.W.typeIn K (.ref C) = some (.type "type")
  kp : PySem.W.keepIn K (.ref C) = true
  sb : PySem.W.subIn K (.ref C) (.type "BaseException") = some true
  hd : PySem.W.hasDictIn K C = true
  sa : PySem.W.findIn K (.ref C) "__setattr__" = some (some (.builtin "object.__setattr__"))
  ga : PySem.W.findIn K (.ref C) "__getattribute__" = some (some (.builtin "BaseException.__getattribute__"))
  gt : PySem.W.findIn K (.ref C) "__getattr__" = some none
  cc : PySem.W.findIn K (.ref C) "__class__" = some (some (.builtin "object.__class__"))
  mo : PySem.W.mroIn K C (.type "object") = some true
  sv : PySem.W.subIn K (.ref C) (.type "ValueError") = some true
  sf : PySem.W.subIn K (.ref C) (.ref F) = some true
section
variable {P : Program} {w : World} {K : PySem.W.Frag} {mg : Str → Option Value} {base : Heap} {G : Gp} {C F fI : Addr} {fd : FuncData} {x : Str} {ps : List Str} {sp : Sp}
theorem exm_of {t : Value} (sF : PySem.W.subIn K (.ref F) (.type "BaseException") = some true) (iF : PySem.W.isClsIn K F = true) (tF : PySem.W.typeIn K (.ref F) = some (.type "type")) (h : PySem.W.subIn K t (.ref F) = some true) : PySem.W.exmOne K t (.ref F) = some true := by
  have e1 : (PySem.W.subIn K (.ref F) (.type "BaseException") == some true) = true := by rw [sF] <;> rfl
  have e2 : ((PySem.W.clsIn K F).isSome && PySem.W.typeIn K (.ref F) == some (.type "type")) = true := by
    have h2 : (PySem.W.clsIn K F).isSome = true := iF
    rw [h2, tF] <;> rfl
  show (if (PySem.W.subIn K (.ref F) (.type "BaseException") == some true) = true then (if ((PySem.W.clsIn K F).isSome && PySem.W.typeIn K (.ref F) == some (.type "type")) = true then PySem.W.subIn K t (.ref F) else none) else none) = some true
  rw [if_pos e1, if_pos e2]
  exact h
theorem xall_mk (k : ∀ x, XK1 K (clsOf G x) F) (sF : PySem.W.subIn K (.ref F) (.type "BaseException") = some true) (iF : PySem.W.isClsIn K F = true) (tF : PySem.W.typeIn K (.ref F) = some (.type "type"))
    (gn : PySem.W.specialIn K (.builtin "object.__class__") "__get__" = some (some (.builtin "getset_descriptor.__get__"))) (tk : PySem.W.takesIn K (.builtin "object.__class__") = some true)
    (nw : PySem.W.findIn K (.ref G.xCase) "word" = some none) (nn : PySem.W.findIn K (.ref G.xCase) "number" = some none) (ns : PySem.W.findIn K (.ref G.xSign) "place" = some none) (nr : PySem.W.findIn K (.ref G.xRow) "place" = some none) (nt : PySem.W.findIn K (.ref G.xText) "row" = some none) : XAll K G F where
  d := fun x => ⟨(k x).ic, (k x).ga, (k x).gt, (k x).sb, (k x).hd, (k x).cc, (k x).mo, gn, tk⟩
  exm := fun x => exm_of sF iF tF (k x).sf
  no := fun x f d h => by
    cases x with
    | change => cases h
    | case w n =>
      dsimp only [xfld] at h
      split at h
      · rename_i e; subst e; exact nw
      · split at h
        · rename_i e; subst e; exact nn
        · cases h
    | sign p =>
      dsimp only [xfld] at h
      split at h
      · rename_i e; subst e; exact ns
      · cases h
    | row p =>
      dsimp only [xfld] at h
      split at h
      · rename_i e; subst e; exact nr
      · cases h
    | text p =>
      dsimp only [xfld] at h
      split at h
      · rename_i e; subst e; exact nt
      · cases h
theorem kit_sub {t : Value} {b : Bool} (iC : PySem.W.isClsIn K C = true) (tC : PySem.W.typeIn K (.ref C) = some (.type "type")) (sC : PySem.W.subIn K (.ref C) (.ref C) = some true) (h : PySem.W.subIn K t (.ref C) = some b) : PySem.W.kitOne K t (.ref C) = some b := by
  unfold PySem.W.kitOne
  by_cases e : (t == Value.ref C) = true
  · have e' : t = .ref C := beq_iff_eq.mp e
    rw [e', sC] at h
    rw [if_pos e]
    exact h
  · rw [if_neg e]
    have e2 : ((PySem.W.clsIn K C).isSome && PySem.W.typeIn K (.ref C) == some (.type "type")) = true := by
      have h2 : (PySem.W.clsIn K C).isSome = true := iC
      rw [h2, tC] <;> rfl
    show (if ((PySem.W.clsIn K C).isSome && PySem.W.typeIn K (.ref C) == some (.type "type")) = true then PySem.W.subIn K t (.ref C) else none) = some b
    rw [if_pos e2]
    exact h
theorem kit_mk {c : XC} (k : XK1 K C F) (sC : PySem.W.subIn K (.ref C) (.ref C) = some true)
    (h1 : PySem.W.subIn K (.ref G.xCase) (.ref C) = some (isEx c (.case "" 0))) (h2 : PySem.W.subIn K (.ref G.xSign) (.ref C) = some (isEx c (.sign 0))) (h3 : PySem.W.subIn K (.ref G.xRow) (.ref C) = some (isEx c (.row 0))) (h4 : PySem.W.subIn K (.ref G.xChange) (.ref C) = some (isEx c .change)) (h5 : PySem.W.subIn K (.ref G.xText) (.ref C) = some (isEx c (.text 0))) :
    ∀ x, PySem.W.kitOne K (.ref (clsOf G x)) (.ref C) = some (isEx c x) := fun x => by
  refine kit_sub k.ic k.ty sC ?_
  cases x with
  | case w n => rw [show isEx c (.case w n) = isEx c (.case "" 0) by cases c <;> rfl]; exact h1
  | sign w => rw [show isEx c (.sign w) = isEx c (.sign 0) by cases c <;> rfl]; exact h2
  | row w => rw [show isEx c (.row w) = isEx c (.row 0) by cases c <;> rfl]; exact h3
  | change => exact h4
  | text w => rw [show isEx c (.text w) = isEx c (.text 0) by cases c <;> rfl]; exact h5
theorem kitV_mk (k : ∀ x, XK1 K (clsOf G x) F) : ∀ x, PySem.W.kitOne K (.ref (clsOf G x)) (.type "ValueError") = some (isEx .value x) := fun x => by
  have e : isEx .value x = true := by cases x <;> rfl
  rw [e]
  unfold PySem.W.kitOne
  have z : (Value.ref (clsOf G x) == Value.type "ValueError") = false := beq_eq_false_iff_ne.mpr fun z => nomatch z
  rw [z, if_neg Bool.false_ne_true]
  show (if PySem.W.kitMeta "ValueError" = true then PySem.W.subIn K (.ref (clsOf G x)) (.type "ValueError") else none) = some true
  rw [if_pos (by decide +kernel)]
  exact (k x).sv
theorem oexc_mk (k : XK1 K C F) (h : ∃ nm q N bs bm sn sub ab col dd k0 k1 k2 k3 k5, K.lookup C = some (excClassObj nm q C N bs bm true sn sub ab col dd k0 k1 k2 k3 k5 "ValueError.__new__") ∧ PySem.HandSPX.refsVE bm = true) : OexC K C :=
  ⟨h, k.sa, k.sb, k.ty, k.kp⟩
end
end HD

set_option Elab.async false
set_option linter.all false
set_option maxRecDepth 100000
set_option maxHeartbeats 1000000
/-! a class that may refuse what it is made of; min, max of a tuple of ints -/
namespace HD
open PySem PySem.Spec PyProof.Rows L2
def rdMinT : DRN := fun _ ds Q => match ds with
  | [.tup ds] => ∃ ns : List Int, ds = ns.map D.int ∧ 0 < ns.length ∧ ∀ m, m ∈ ns → (∀ y, y ∈ ns → m ≤ y) → Q .fr (.int m)
  | _ => False
def rdMaxT : DRN := fun _ ds Q => match ds with
  | [.tup ds] => ∃ ns : List Int, ds = ns.map D.int ∧ 0 < ns.length ∧ ∀ m, m ∈ ns → (∀ y, y ∈ ns → y ≤ m) → Q .fr (.int m)
  | _ => False
theorem foldl_min : ∀ (ns : List Int) (n : Int), ns.foldl min n ∈ n :: ns ∧ ∀ y ∈ n :: ns, ns.foldl min n ≤ y
  | [], n => ⟨List.mem_cons_self, fun y hy => by rw [List.mem_singleton.mp hy]; exact Int.le_refl _⟩
  | a :: ns, n => by
    obtain ⟨h1, h2⟩ := foldl_min ns (min n a)
    refine ⟨?_, fun y hy => ?_⟩
    · show ns.foldl min (min n a) ∈ _
      rcases List.mem_cons.mp h1 with e | h
      · rw [e]
        by_cases c : n ≤ a
        · rw [Int.min_eq_left c]; simp
        · rw [Int.min_eq_right (by omega)]; simp
      · exact List.mem_cons_of_mem _ (List.mem_cons_of_mem _ h)
    · show ns.foldl min (min n a) ≤ y
      have h0 := h2 (min n a) List.mem_cons_self
      rcases List.mem_cons.mp hy with e | hy
      · subst e; omega
      · rcases List.mem_cons.mp hy with e | hy
        · subst e; omega
        · exact h2 y (List.mem_cons_of_mem _ hy)
theorem foldl_max : ∀ (ns : List Int) (n : Int), ns.foldl max n ∈ n :: ns ∧ ∀ y ∈ n :: ns, y ≤ ns.foldl max n
  | [], n => ⟨List.mem_cons_self, fun y hy => by rw [List.mem_singleton.mp hy]; exact Int.le_refl _⟩
  | a :: ns, n => by
    obtain ⟨h1, h2⟩ := foldl_max ns (max n a)
    refine ⟨?_, fun y hy => ?_⟩
    · show ns.foldl max (max n a) ∈ _
      rcases List.mem_cons.mp h1 with e | h
      · rw [e]
        by_cases c : n ≤ a
        · rw [Int.max_eq_right c]; simp
        · rw [Int.max_eq_left (by omega)]; simp
      · exact List.mem_cons_of_mem _ (List.mem_cons_of_mem _ h)
    · show y ≤ ns.foldl max (max n a)
      have h0 := h2 (max n a) List.mem_cons_self
      rcases List.mem_cons.mp hy with e | hy
      · subst e; omega
      · rcases List.mem_cons.mp hy with e | hy
        · subst e; omega
        · exact h2 y (List.mem_cons_of_mem _ hy)
theorem pysI (ns : List Int) : D.pys (ns.map D.int) = ns.map PyData.int := by rw [pys_map, List.map_map]; rfl
theorem alikeI (ns : List Int) : PySem.W.AlikeAll (ns.map PyData.int) := by
  refine ⟨fun x hx y hy => ?_, fun x hx => ?_⟩
  · obtain ⟨a, _, rfl⟩ := List.mem_map.mp hx
    obtain ⟨b, _, rfl⟩ := List.mem_map.mp hy
    rfl
  · obtain ⟨a, _, rfl⟩ := List.mem_map.mp hx
    exact fun z => nomatch z
section
variable {G : Gp} {X : Cx}
theorem cd_minT (hc : X.calm = true) (hu : X.A.units + 64 < cLine) : CallR X (.builtin "min") (cRn G rdMinT) := by
  intro pins s σ H xs us Qv I rs h
  obtain ⟨H0, r, M, Hs, k, ds, Q, c, q, r1, post⟩ := h
  unfold rdMinT at q
  split at q
  · obtain ⟨v, rfl, h⟩ := reps1 r1
    obtain ⟨a, xs, rfl, h1, h2⟩ := rep_tup h
    obtain ⟨ns, rfl, hne, q⟩ := q
    obtain ⟨n, ns, rfl⟩ : ∃ n ns', ns = n :: ns' := by
      cases ns with
      | nil => simp at hne
      | cons d ds => exact ⟨d, ds, rfl⟩
    have hcm : D.cmps 50 ((n :: ns).map D.int) = true := cmps_map (fun _ => rfl) _
    obtain ⟨its, rv, hl, hz⟩ := I.tuple (SqT.of h1)
    rw [Vals.ref1 rs]
    obtain ⟨as, hr⟩ := Dp.readsAll I (D.pys ((n :: ns).map D.int)) xs its (reps_dp 50 _ _ hcm h2) rv
    have hdep := dpAll_depth hcm
    rw [pysI] at hr hdep
    refine PySem.W.min_tuple_data (I.ok.hd hc) hl hr (alikeI (n :: ns)) (by have : (PyData.int n :: ns.map PyData.int) = (n :: ns).map PyData.int := rfl; rw [this]; omega) fun i v h' tk bs hv hrd hk => ?_
    rw [PySem.W.minD_ints] at hrd
    obtain ⟨m1, m2⟩ := foldl_min ns n
    have I2 : Inv X pins σ H { s with heap := h', toks := tk } := I.kept (t' := tk) fun b o e => hk b o e
    cases hrd
    exact ⟨.int _, H, I2, ⟨_, rfl⟩, post.old c (q _ m1 m2) rep_int⟩
  · exact q.elim
theorem cd_maxT (hc : X.calm = true) (hu : X.A.units + 64 < cLine) : CallR X (.builtin "max") (cRn G rdMaxT) := by
  intro pins s σ H xs us Qv I rs h
  obtain ⟨H0, r, M, Hs, k, ds, Q, c, q, r1, post⟩ := h
  unfold rdMaxT at q
  split at q
  · obtain ⟨v, rfl, h⟩ := reps1 r1
    obtain ⟨a, xs, rfl, h1, h2⟩ := rep_tup h
    obtain ⟨ns, rfl, hne, q⟩ := q
    obtain ⟨n, ns, rfl⟩ : ∃ n ns', ns = n :: ns' := by
      cases ns with
      | nil => simp at hne
      | cons d ds => exact ⟨d, ds, rfl⟩
    have hcm : D.cmps 50 ((n :: ns).map D.int) = true := cmps_map (fun _ => rfl) _
    obtain ⟨its, rv, hl, hz⟩ := I.tuple (SqT.of h1)
    rw [Vals.ref1 rs]
    obtain ⟨as, hr⟩ := Dp.readsAll I (D.pys ((n :: ns).map D.int)) xs its (reps_dp 50 _ _ hcm h2) rv
    have hdep := dpAll_depth hcm
    rw [pysI] at hr hdep
    refine PySem.W.max_tuple_data (I.ok.hd hc) hl hr (alikeI (n :: ns)) (by have : (PyData.int n :: ns.map PyData.int) = (n :: ns).map PyData.int := rfl; rw [this]; omega) fun i v h' tk bs hv hrd hk => ?_
    rw [PySem.W.maxD_ints] at hrd
    obtain ⟨m1, m2⟩ := foldl_max ns n
    have I2 : Inv X pins σ H { s with heap := h', toks := tk } := I.kept (t' := tk) fun b o e => hk b o e
    cases hrd
    exact ⟨.int _, H, I2, ⟨_, rfl⟩, post.old c (q _ m1 m2) rep_int⟩
  · exact q.elim
@[simp] theorem s_minT {k ds} {Q : KQ} : rdMinT k [.tup ds] Q = ∃ ns : List Int, ds = ns.map D.int ∧ 0 < ns.length ∧ ∀ m, m ∈ ns → (∀ y, y ∈ ns → m ≤ y) → Q .fr (.int m) := rfl
@[simp] theorem s_maxT {k ds} {Q : KQ} : rdMaxT k [.tup ds] Q = ∃ ns : List Int, ds = ns.map D.int ∧ 0 < ns.length ∧ ∀ m, m ∈ ns → (∀ y, y ∈ ns → y ≤ m) → Q .fr (.int m) := rfl
end
section
variable {G : Gp} {E : XK} {H0 H H' Hs : Hp} {r : Option Addr} {M : Addr → Prop} {X : Cx} {σ : L2.St} {ρ : Rho} {γ : List Gh} {XX : Exn → Prop}
variable {P : Program} {w : World} {K : PySem.W.Frag} {mg : Str → Option Value} {base : Heap} {fn : DSp} {t1 t2 : DTS} {te : DTE}
theorem fnIX {qual : Str} {st : Stmt} {f : Addr} {fd : FuncData} {N : List Str} {k : Nat} (F : Fun K "__init__" qual st f fd) (S : FnScope N ["self", "faces"] (defScope st)) (c : Cls K G.cC) (na : NoAttr K G.cC "kept_faces")
    (hb : ∀ (cdv : Value) (A : Around) (outer : List Env) (s : Shared) (H : Hp) (E : XK), Room k (A.deeper (envOfC qual (defScope st) s.heap.objs.size f cdv)) →
      PSs (cxOf (L2.CX P w) P w K mg base N qual (defScope st) f cdv A outer s H E) (defBody st) (tSeq (cS G E t1) (tSeq (cS G E t2) (sFld K (tVar 0) (cE G E te) "kept_faces"))))
    (hr : ∀ XX ds Q, fn XX ds Q → dInit N.length t1 t2 te XX ds Q) : FnOk P w K mg base (L2.CX P w) (k + 1) f fd ["self", "faces"] (spI G fn) := by
  have hps : 2 ≤ N.length := by have := congrArg List.length S.pre; rw [List.length_take] at this; simp at this; omega
  refine F.okX S (fun vs H Q E h => ?_) (fun cdv A outer s H vs Q E hroom h => ?_)
  · obtain ⟨r, x, dx, v, d, XX, QQ, rfl, _⟩ := h
    rfl
  · refine ⟨_, hb cdv A outer s H E hroom, init_body c na hps ?_⟩
    obtain ⟨r, x, dx, v, d, XX, QQ, h1, h2, h3, h4, h5, h6, h7⟩ := h
    exact ⟨r, x, dx, v, d, XX, QQ, h1, h2, h3, h4, h5, hr _ _ _ h6, h7⟩
theorem FnOk.nxI {k : Nat} {f : Addr} {fd : FuncData} {ps : List Str} (F : FnOk P w K mg base (L2.CX P w) k f fd ps (spI G fn)) : FnOk P w K mg base CX0 k f fd ps (spI G (HD.nx fn)) := by
  have key : ∀ vs H Q E, spI G (HD.nx fn) vs H Q E → spI G fn vs H Q (fun _ _ _ => False) := fun vs H Q E h => by
    obtain ⟨r, x, dx, v, d, XX, QQ, h1, h2, h3, h4, h5, h6, h7, h8⟩ := h
    exact ⟨r, x, dx, v, d, fun _ => False, QQ, h1, h2, h3, h4, h5, h6, fun _ _ _ _ z => z.elim, h8⟩
  refine ⟨fun vs H Q E h => F.len _ _ _ _ (key _ _ _ _ h), fun A outer s H args us vs Q E hr he hb hv hs => ?_⟩
  refine codeAny_mono (F.run A outer s H args us vs Q (fun _ _ _ => False) hr he hb hv (key _ _ _ _ hs)) fun r s' h => ?_
  cases r with
  | ok fl => cases fl <;> exact h
  | error e =>
    obtain ⟨_, _, _, _, _, _, _, _, _, _, _, _, z⟩ := h
    exact z.elim
theorem MkC.nx {k : Nat} {C : Addr} {x : Str} (M : MkC P w K mg base (L2.CX P w) k C x (spI G fn)) : MkC P w K mg base CX0 k C x (spI G (HD.nx fn)) := by
  obtain ⟨f, fd, h1, h2, h3, h4⟩ := M.ex
  exact ⟨f, fd, h1, h2, h3, HD.FnOk.nxI h4⟩
variable {x : Str} {p pos : Pos} {e : Expr} {es : List Expr} {dt : DTA} {k : Nat}
/-- Case(..), where it refuses nothing -/
theorem pd_makeN (C : MkC X.prog X.w X.K X.mg X.base (L2.CX X.prog X.w) k G.cC x (spI G fn)) (hfn : ∀ XX ds Q, fn XX ds Q → ∃ d, ds = [d]) (hr : Room (k + 1) X.A) (ha : PA X (e :: es) (cA G E dt)) (hg : Gl X x := by rfl) (hdb : (x == ("__debug__" : Str)) = false := by decide)
    (he : starEach (e :: es) X.env = (false, eval e X.env) :: starEach es X.env := by rfl) (hpl : (backTo pos (starEach es X.env)).any (·.1) = false := by rfl) :
    PE X (.Call (.Name x p) (e :: es) [] pos) (cE G E (dMake fn dt)) := pd_make (fn := HD.nx fn) C.nx (fun XX ds Q h => hfn _ _ _ h) hr ha hg hdb he hpl
/-- .. where it may -/
def dMakeX (fn : DSp) (t : DTA) : DTE := fun XX ρ Q => t XX ρ fun _ ds => fn XX ds (Q .fr)
theorem cE_makeX {Qv : VK} (hfn : ∀ XX ds Q, fn XX ds Q → ∃ d, ds = [d]) (h : cE G E (dMakeX fn dt) σ H Qv) : tLk (tMake G.cC (spI G fn) [] E (cA G E dt)) σ H Qv := by
  obtain ⟨H0, r, γ, ρ, XX, Q, env, q, hx, post⟩ := h
  refine cA_at (Now.start env) q hx fun vs k ds H1 q1 e1 N1 r1 x dx hx1 hdx hne => ?_
  obtain ⟨d, rfl⟩ := hfn _ _ _ q1
  obtain ⟨v, rfl, rv⟩ := reps1 r1
  have c1 := N1.cxt
  have hx2 : (upd H1 dx (.own x)) x = none := by rw [upd_ne (Ne.symm hne)]; exact hx1
  have s2 : SameR r H1 (upd (upd H1 dx (.own x)) x (.ins G.cC dx [])) := (SameR.new hdx).trans (.new hx2)
  have row2 : RowOk G.K r (upd (upd H1 dx (.own x)) x (.ins G.cC dx [])) := (N1.row.new hdx).new hx2
  have xr : some x ≠ r := fun z => env.rt x z.symm ((env.ext.trans e1).there x hx1)
  refine ⟨r, x, dx, v, d, XX, _, rfl, upd_same, xr, row2, Rep.mono N1.row s2 (fun a p => ⟨c1.ne_r p, c1.ne_r p⟩) rv, q1, fun xn cls dd H' h1 h2 h3 h4 => hx xn cls dd H' h1 ((env.ext.trans e1).trans (s2.trans h2)) h3 h4, fun H3 l xs ds s3 row3 hl hl3 hds hf q3 => ⟨rfl, ?_⟩⟩
  have s13 : SameR r H1 (upd H3 x (.ins G.cC dx [("kept_faces", .ref l)])) := (s2.trans s3).mut hx1
  have hx3 : H3 x = some (.ins G.cC dx []) := s3.keep _ _ xr upd_same
  have hl1 : H1 l = none := s2.there l hl
  have nlx : l ≠ x := fun z => by rw [z, upd_same] at hl; cases hl
  have row4 : RowOk G.K r (upd H3 x (.ins G.cC dx [("kept_faces", .ref l)])) := fun a ha => by
    obtain ⟨s, ns, i, j, k, h1, h2, h3⟩ := row3 a ha
    refine ⟨s, ns, i, j, k, ?_, ?_, h3⟩
    · rw [upd_ne fun z => by rw [z] at ha; exact xr ha.symm]; exact h1
    · rcases h2 with ⟨o, h2⟩ | h2
      · refine .inl ⟨o, ?_⟩
        rw [upd_ne fun z => by rw [z, hx3] at h2; cases h2]; exact h2
      · exact .inr h2
  have hl4 : (upd H3 x (.ins G.cC dx [("kept_faces", .ref l)])) l = some (.lst xs) := by rw [upd_ne nlx]; exact hl3
  refine ⟨l, .lst xs, hl4, trivial, fun od => ?_⟩
  have hln : some l ≠ r := fun z => env.rt l z.symm (e1.there l hl1 |> env.ext.there l)
  have s14 := s13.mut (o := .frz od (.lst xs)) hl1
  refine post _ .fr _ _ q3 (e1.trans s14) (row4.write hl4 trivial hln) ?_
  unfold Rep
  have nxl : x ≠ l := fun z => nlx z.symm
  refine ⟨x, dx, l, od, xs, rfl, by rw [upd_ne nxl]; exact upd_same, upd_same, ?_⟩
  refine Reps.tups (H := H3) (fun a o ha hno hnl => ?_) ds xs hf hds
  have hal : a ≠ l := fun z => by rw [z, hl3] at ha; cases ha; exact hnl _ rfl
  rw [upd_ne hal, upd_ne fun z => by rw [z, hx3] at ha; cases ha; exact hno _ _ rfl]
  exact ha
theorem pd_makeX (C : MkC X.prog X.w X.K X.mg X.base (L2.CX X.prog X.w) k G.cC x (spI G fn)) (hfn : ∀ XX ds Q, fn XX ds Q → ∃ d, ds = [d]) (hr : Room (k + 1) X.A) (tk : Takes X (fun cls d _ H => E cls d H)) (ha : PA X (e :: es) (cA G E dt)) (hg : Gl X x := by rfl) (hdb : (x == ("__debug__" : Str)) = false := by decide)
    (he : starEach (e :: es) X.env = (false, eval e X.env) :: starEach es X.env := by rfl) (hpl : (backTo pos (starEach es X.env)).any (·.1) = false := by rfl) :
    PE X (.Call (.Name x p) (e :: es) [] pos) (cE G E (dMakeX fn dt)) := by
  obtain ⟨f, fd, h1, h2, h3, h4⟩ := C.ex
  exact pe_weak (pe_lk (pe_make (p := p) h1 h4 hr hg h2 h3 .nil (E := E) (passes_call tk fun _ _ _ _ h => h) ha hdb he hpl)) fun _ _ _ h => cE_makeX hfn h
end
@[simp] theorem s_dMakeX {XX : Exn → Prop} {ρ : Rho} {Q : KQ} {fn : DSp} {t : DTA} : dMakeX fn t XX ρ Q = t XX ρ fun _ ds => fn XX ds (Q .fr) := rfl
end HD

set_option Elab.async false
set_option linter.all false
set_option maxRecDepth 100000
set_option maxHeartbeats 1000000
/-! the best row, reckoned from the end on -/
namespace HD
open PySem PySem.Spec PyProof.Rows L2
def addC (a b : Cost) : Cost := (a.1 + b.1, a.2.1 + b.2.1, a.2.2 + b.2.2)
def chgP (prev : Option (Option Nat)) (f : Option Nat) : Int := match prev with
  | none => 0
  | some g => if f ≠ g then 1 else 0
theorem chgTo_P (row : List (Option Nat)) (f : Option Nat) : chgTo row f = chgP row.getLast? f := by
  unfold chgTo chgP
  cases h : row.getLast? with
  | none =>
    have := List.getLast?_eq_none_iff.mp h
    simp [this]
  | some g =>
    have hne : row ≠ [] := fun e => by rw [e] at h; cases h
    by_cases e : g = f
    · subst e; simp
    · have e2 : ¬ f = g := fun z => e z.symm
      simp [hne, e, e2]
/-- the price of a face -/
def pcC (fs : List Face) (f w : Option Nat) : Cost := (0, (costL fs f w).1, (costL fs f w).2)
/-- the least of costs, of costs and faces -/
def leastC (cs : List Cost) : Cost := (leastW (cs.map fun c => (c, []))).1
def leastM (ps : List (Cost × Option Nat)) : Option Nat := (leastW (ps.map fun p => (p.1, [p.2]))).2.headD none
theorem leastC_one {cs : List Cost} {m : Cost} (hm : m ∈ cs) (h : ∀ y ∈ cs, ltC y m = false) : m = leastC cs := by
  have q := least_one (ws := cs.map fun c => ((c, []) : Way)) (m := (m, [])) (List.mem_map.mpr ⟨m, hm, rfl⟩) (fun a ha b hb => by
    obtain ⟨x, _, rfl⟩ := List.mem_map.mp ha
    obtain ⟨y, _, rfl⟩ := List.mem_map.mp hb
    rfl) fun y hy => by
      obtain ⟨x, hx, rfl⟩ := List.mem_map.mp hy
      have := h x hx
      unfold ltW
      dsimp only
      split
      · rfl
      · exact this
  unfold leastC
  rw [← q]
theorem leastM_one {ps : List (Cost × Option Nat)} {m : Cost × Option Nat} (hm : m ∈ ps) (hk : ∀ a ∈ ps, ∀ b ∈ ps, a.2.isSome = b.2.isSome) (h : ∀ y ∈ ps, ltW (y.1, [y.2]) (m.1, [m.2]) = false) : m.2 = leastM ps := by
  have q := least_one (ws := ps.map fun p => ((p.1, [p.2]) : Way)) (m := (m.1, [m.2])) (List.mem_map.mpr ⟨m, hm, rfl⟩) (fun a ha b hb => by
    obtain ⟨x, hx, rfl⟩ := List.mem_map.mp ha
    obtain ⟨y, hy, rfl⟩ := List.mem_map.mp hb
    show List.map _ _ = List.map _ _
    simp [hk x hx y hy]) fun y hy => by
      obtain ⟨x, hx, rfl⟩ := List.mem_map.mp hy
      exact h x hx
  unfold leastM
  rw [← q]
  rfl
/-- the least pair: there, none less -/
theorem leastM_spec {ps : List (Cost × Option Nat)} (h0 : ps ≠ []) : ∃ c, (c, leastM ps) ∈ ps ∧ ∀ y ∈ ps, ltW (y.1, [y.2]) (c, [leastM ps]) = false := by
  have hm := least_mem (ws := ps.map fun p => ((p.1, [p.2]) : Way)) (by simpa using h0)
  have hl := fun y hy => least_le (ws := ps.map fun p => ((p.1, [p.2]) : Way)) (y := y) hy
  obtain ⟨p, hp, e⟩ := List.mem_map.mp hm
  have e2 : leastM ps = p.2 := by unfold leastM; rw [← e]; rfl
  refine ⟨p.1, by rw [e2]; exact hp, fun y hy => ?_⟩
  have := hl _ (List.mem_map.mpr ⟨y, hy, rfl⟩)
  rw [← e] at this
  rw [e2]
  exact this
/-- the least of what is to come behind a face -/
def behC (T : List (Option Nat × Cost)) (f : Option Nat) : Cost := if T = [] then (0, 0, 0) else leastC (T.map fun p => addC p.2 (if p.1 ≠ f then 1 else 0, 0, 0))
def tabL (fs : List Face) : List Cand → List (Option Nat × Cost)
  | [] => []
  | q :: qs => (cands q.1).map fun f => (f, addC (pcC fs f q.2) (behC (tabL fs qs) f))
def stepM (prev : Option (Option Nat)) (T : List (Option Nat × Cost)) : Option Nat := leastM (T.map fun p => (addC p.2 (chgP prev p.1, 0, 0), p.1))
def grL (fs : List Face) : Option (Option Nat) → List Cand → List (Option Nat)
  | _, [] => []
  | prev, q :: qs => stepM prev (tabL fs (q :: qs)) :: grL fs (some (stepM prev (tabL fs (q :: qs)))) qs
def cF (fs : List Face) : Option (Option Nat) → List Cand → List (Option Nat) → Cost
  | prev, q :: qs, f :: r => addC (addC (pcC fs f q.2) (cF fs (some f) qs r)) (chgP prev f, 0, 0)
  | _, _, _ => (0, 0, 0)
theorem ltW_iff2 {a b : Way} : ltW a b = true ↔ (a.1 = b.1 ∧ ltR a.2 b.2 = true) ∨ ltC a.1 b.1 = true := by
  unfold ltW
  by_cases e : a.1 = b.1
  · rw [if_pos e, e, ltC_irr]
    simp
  · rw [if_neg e]
    simp [e]
theorem addC_inj {a b c : Cost} : addC a c = addC b c ↔ a = b := by
  obtain ⟨a1, a2, a3⟩ := a
  obtain ⟨b1, b2, b3⟩ := b
  simp [addC]
theorem addC_lt {a b c : Cost} : ltC (addC a c) (addC b c) = ltC a b := by
  rw [Bool.eq_iff_iff, ltC_iff, ltC_iff]
  simp only [addC]
  omega
theorem addC_inj' {a b c : Cost} : addC c a = addC c b ↔ a = b := by
  obtain ⟨a1, a2, a3⟩ := a
  obtain ⟨b1, b2, b3⟩ := b
  simp [addC]
theorem addC_lt' {a b c : Cost} : ltC (addC c a) (addC c b) = ltC a b := by
  rw [Bool.eq_iff_iff, ltC_iff, ltC_iff]
  simp only [addC]
  omega
theorem leC_trans {a b c : Cost} (h1 : ltC a b = false) (h2 : ltC b c = false) : ltC a c = false := by
  rw [← Bool.not_eq_true, ltC_iff] at *
  omega
theorem ltW_leC {a b : Way} (h : ltW a b = false) : ltC a.1 b.1 = false := by
  rw [← Bool.not_eq_true, ltW_iff2] at h
  rw [← Bool.not_eq_true]
  exact fun z => h (.inr z)
theorem tab_keys (fs : List Face) (q : Cand) (qs : List Cand) : (tabL fs (q :: qs)).map (·.1) = cands q.1 := by
  unfold tabL
  rw [List.map_map]
  exact List.map_id _
theorem tab_ne (fs : List Face) (q : Cand) (qs : List Cand) : tabL fs (q :: qs) ≠ [] := fun e => by
  have := tab_keys fs q qs
  rw [e] at this
  exact cands_ne _ this.symm
theorem gr_spec (fs : List Face) : ∀ (qs : List Cand) (prev : Option (Option Nat)),
    RowOf qs (grL fs prev qs) ∧ (∀ r, RowOf qs r → ltW (cF fs prev qs r, r) (cF fs prev qs (grL fs prev qs), grL fs prev qs) = false) ∧
    (qs ≠ [] → leastC ((tabL fs qs).map fun p => addC p.2 (chgP prev p.1, 0, 0)) = cF fs prev qs (grL fs prev qs))
  | [], prev => ⟨rfl, fun r hr => by rw [show r = [] from hr]; exact ltW_irr _, fun h => absurd rfl h⟩
  | q :: qs, prev => by
    have ih := gr_spec fs qs
    have hbeh : ∀ f, behC (tabL fs qs) f = cF fs (some f) qs (grL fs (some f) qs) := fun f => by
      unfold behC
      cases qs with
      | nil => rfl
      | cons q' qs' =>
        rw [if_neg (tab_ne fs q' qs')]
        exact (ih (some f)).2.2 (by simp)
    have htab : tabL fs (q :: qs) = (cands q.1).map fun f => (f, addC (pcC fs f q.2) (cF fs (some f) qs (grL fs (some f) qs))) := by
      show (cands q.1).map _ = _
      apply List.map_congr_left
      intro f _
      rw [hbeh]
    have hmap : (tabL fs (q :: qs)).map (fun p => (addC p.2 (chgP prev p.1, 0, 0), p.1)) = (cands q.1).map fun f => (cF fs prev (q :: qs) (f :: grL fs (some f) qs), f) := by
      rw [htab, List.map_map]
      rfl
    have hmapC : (tabL fs (q :: qs)).map (fun p => addC p.2 (chgP prev p.1, 0, 0)) = (cands q.1).map fun f => cF fs prev (q :: qs) (f :: grL fs (some f) qs) := by
      rw [htab, List.map_map]
      rfl
    have hs : stepM prev (tabL fs (q :: qs)) = leastM ((cands q.1).map fun f => (cF fs prev (q :: qs) (f :: grL fs (some f) qs), f)) := by
      unfold stepM
      rw [hmap]
    obtain ⟨c0, hc0, hle⟩ := leastM_spec (ps := (cands q.1).map fun f => (cF fs prev (q :: qs) (f :: grL fs (some f) qs), f)) (by simpa using cands_ne q.1)
    rw [← hs] at hc0 hle
    have hgr : grL fs prev (q :: qs) = stepM prev (tabL fs (q :: qs)) :: grL fs (some (stepM prev (tabL fs (q :: qs)))) qs := rfl
    rw [hgr, hmapC]
    generalize stepM prev (tabL fs (q :: qs)) = f0 at hc0 hle
    obtain ⟨f1, hf1, e1⟩ := List.mem_map.mp hc0
    have e2 : f1 = f0 := congrArg Prod.snd e1
    subst e2
    have e3 : cF fs prev (q :: qs) (f1 :: grL fs (some f1) qs) = c0 := congrArg Prod.fst e1
    rw [e3]
    have hle2 : ∀ f, f ∈ cands q.1 → ltW (cF fs prev (q :: qs) (f :: grL fs (some f) qs), [f]) (c0, [f1]) = false := fun f hf => hle _ (List.mem_map.mpr ⟨f, hf, rfl⟩)
    refine ⟨⟨f1, _, rfl, hf1, (ih (some f1)).1⟩, fun r hr => ?_, fun _ => ?_⟩
    · obtain ⟨f, r', rfl, hf, hr'⟩ := hr
      have i2 := (ih (some f)).2.1 r' hr'
      by_cases ef : f = f1
      · subst ef
        rw [← e3]
        rw [← Bool.not_eq_true, ltW_iff2] at i2 ⊢
        show ¬((addC (addC (pcC fs f q.2) (cF fs (some f) qs r')) (chgP prev f, 0, 0) = addC (addC (pcC fs f q.2) (cF fs (some f) qs (grL fs (some f) qs))) (chgP prev f, 0, 0) ∧ ltR (f :: r') (f :: grL fs (some f) qs) = true) ∨ ltC (addC (addC (pcC fs f q.2) (cF fs (some f) qs r')) (chgP prev f, 0, 0)) (addC (addC (pcC fs f q.2) (cF fs (some f) qs (grL fs (some f) qs))) (chgP prev f, 0, 0)) = true)
        rw [addC_inj, addC_inj', addC_lt, addC_lt']
        simpa [ltR] using i2
      · have l1 := hle2 f hf
        have l2 := ltW_leC i2
        have l3 : ltC (cF fs prev (q :: qs) (f :: r')) (cF fs prev (q :: qs) (f :: grL fs (some f) qs)) = false := by
          show ltC (addC (addC (pcC fs f q.2) (cF fs (some f) qs r')) (chgP prev f, 0, 0)) (addC (addC (pcC fs f q.2) (cF fs (some f) qs (grL fs (some f) qs))) (chgP prev f, 0, 0)) = false
          rw [addC_lt, addC_lt']
          exact l2
        generalize cF fs prev (q :: qs) (f :: grL fs (some f) qs) = a at l1 l3
        generalize cF fs prev (q :: qs) (f :: r') = b at l3
        rw [← Bool.not_eq_true, ltW_iff2] at l1 ⊢
        rintro (⟨h1, h2⟩ | h1)
        · have h1 : b = c0 := h1
          subst h1
          have h3 : a = b := by
            have := ltW_leC (a := (a, [f])) (b := (b, [f1])) (by rw [← Bool.not_eq_true, ltW_iff2]; exact l1)
            exact ltC_total this l3
          refine l1 (.inl ⟨h3, ?_⟩)
          simp only [ltR] at h2 ⊢
          rw [if_neg ef] at h2 ⊢
          exact h2
        · have h1 : ltC b c0 = true := h1
          have h4 : ltC a c0 = false := by
            rw [← Bool.not_eq_true]
            exact fun z => l1 (.inr z)
          have := leC_trans l3 h4
          rw [h1] at this
          cases this
    · refine (leastC_one (List.mem_map.mpr ⟨f1, hf1, e3⟩) fun y hy => ?_).symm
      obtain ⟨f, hf, rfl⟩ := List.mem_map.mp hy
      exact ltW_leC (hle2 f hf)
theorem cF_eq (fs : List Face) : ∀ (qs : List Cand) (r : List (Option Nat)) (prev : Option (Option Nat)), r.length = qs.length → cF fs prev qs r = addC (costW fs qs r) (match r with | [] => 0 | f :: _ => chgP prev f, 0, 0)
  | [], [], _, _ => by simp [cF, costW, addC, changesL, unlL, ranksL]
  | [], _ :: _, _, h => by simp at h
  | _ :: _, [], _, h => by simp at h
  | q :: qs, f :: r, prev, h => by
    have ih := cF_eq fs qs r (some f) (by simpa using h)
    show addC (addC (pcC fs f q.2) (cF fs (some f) qs r)) (chgP prev f, 0, 0) = _
    rw [ih]
    unfold pcC costW
    rw [costL_eq, changesL_cons]
    have e1 : unlL (q :: qs) (f :: r) = unl q.2 f + unlL qs r := by unfold unlL; simp
    have e2 : ranksL fs (f :: r) = rankO fs f + ranksL fs r := by unfold ranksL; simp
    rw [e1, e2]
    cases r with
    | nil => simp [addC, chgP, changesL]
    | cons g r' =>
      simp only [addC, chgP, List.head?_cons, Option.some.injEq, reduceCtorEq, or_false]
      by_cases e : g = f
      · subst e; simp
      · simp [e]; omega
/-- reckoned from the end on: the best row -/
theorem gr_best (fs : List Face) {ev : List (List Nat)} {w : List (Option Nat)} (hw : w.length = ev.length) : grL fs none (ev.zip w) = bestL fs ev w := by
  obtain ⟨h1, h2, _⟩ := gr_spec fs (ev.zip w) none
  have hrow := (RowE_of hw).mp h1
  have hc : ∀ r, RowOf (ev.zip w) r → cF fs none (ev.zip w) r = costW fs (ev.zip w) r := fun r hr => by
    rw [cF_eq fs _ r none hr.len]
    cases r <;> simp [addC, chgP]
  refine (best_uniq fs hw hrow fun r hr => ?_).symm
  have hr' := (RowE_of hw).mpr hr
  have := h2 r hr'
  rw [hc r hr', hc _ h1] at this
  exact this
end HD

set_option Elab.async false
set_option linter.all false
set_option maxRecDepth 100000
set_option maxHeartbeats 1000000
/-! readings: the law's best, from the end on -/
namespace HD
open PySem PySem.Spec PyProof.Rows L2
theorem min_costs {k : Kd} {Q : KQ} {cs : List Cost} (h0 : cs ≠ []) (q : Q k (eC (leastC cs))) : rdMinD k [.lst (cs.map eC)] Q := by
  refine ⟨by simpa using h0, ⟨cmps_map (fun w => by simp [eC]) cs, fun x hx y hy => ?_, fun x hx => ?_⟩, fun m hm hle => ?_⟩
  · obtain ⟨a, ha, rfl⟩ := List.mem_map.mp hx
    obtain ⟨b, hb, rfl⟩ := List.mem_map.mp hy
    simp [eC]
  · obtain ⟨a, ha, rfl⟩ := List.mem_map.mp hx
    unfold eC D.py
    simp
  · obtain ⟨a, ha, rfl⟩ := List.mem_map.mp hm
    have := leastC_one ha fun y hy => by
      by_cases e : y = a
      · rw [e]; exact ltC_irr a
      · rw [← ltC_py e]
        exact hle _ (List.mem_map.mpr ⟨y, hy, rfl⟩)
    rw [this]
    exact q
/-- a cost with a face -/
def eM (p : Cost × Option Nat) : D := .tup [eC p.1, eO p.2]
theorem alkM {a b : Cost × Option Nat} (h : a.2.isSome = b.2.isSome) : alkE [eC a.1, eO a.2] [eC b.1, eO b.2] = true := by
  obtain ⟨c, f⟩ := a
  obtain ⟨d, g⟩ := b
  cases f <;> cases g <;> simp [eC, eO] at h ⊢
theorem ltM_py {a b : Cost × Option Nat} (h : a.2.isSome = b.2.isSome) : ltD (eM a) (eM b) = ltW (a.1, [a.2]) (b.1, [b.2]) := by
  unfold eM
  rw [ltD_tup (alkM h)]
  simp only [ltDs, eqC, decide_eq_true_eq, ltW, ltR]
  by_cases e : a.1 = b.1
  · rw [if_pos e, if_pos e]
    by_cases e2 : a.2 = b.2
    · simp [e2]
    · have : ¬ deq (eO a.2) (eO b.2) = true := by simpa using e2
      rw [if_neg this, if_neg e2]
      exact ltO_py e2 h
  · rw [if_neg e, if_neg e]
    exact ltC_py e
theorem min_pairs {k : Kd} {Q : KQ} {ps : List (Cost × Option Nat)} (h0 : ps ≠ []) (hk : ∀ a ∈ ps, ∀ b ∈ ps, a.2.isSome = b.2.isSome) (q : ∀ c, Q k (eM (c, leastM ps))) : rdMinD k [.lst (ps.map eM)] Q := by
  refine ⟨by simpa using h0, ⟨cmps_map (fun w => by simp [eM, eC]) ps, fun x hx y hy => ?_, fun x hx => ?_⟩, fun m hm hle => ?_⟩
  · obtain ⟨a, ha, rfl⟩ := List.mem_map.mp hx
    obtain ⟨b, hb, rfl⟩ := List.mem_map.mp hy
    unfold eM
    rw [alk_tt]
    exact alkM (hk a ha b hb)
  · obtain ⟨a, ha, rfl⟩ := List.mem_map.mp hx
    unfold eM D.py
    simp
  · obtain ⟨a, ha, rfl⟩ := List.mem_map.mp hm
    have := leastM_one ha hk fun y hy => by
      rw [← ltM_py (hk y hy a ha)]
      exact hle _ (List.mem_map.mpr ⟨y, hy, rfl⟩)
    have e : a = (a.1, leastM ps) := Prod.ext rfl this
    rw [e]
    exact q _
def f_added : DSp := dsp2 fun a b Q => ∃ x y : Cost, a = eC x ∧ b = eC y ∧ Q (eC (addC x y))
-- _law_added(_law_one, _law_other): 0 _law_one 1 _law_other 2 _law_k
@[reducible] def b_added : DTS :=
  (dRet (dCB rdTuple (dCons (dLc (diRg1 (dCons (dC (.int 3)) dNil)) (dgName 2) dYes (dOp rdAdd (dOp rdIx (dVar 0) (dVar 2)) (dOp rdIx (dVar 1) (dVar 2))) [2]) dNil)))
theorem rd_added : Rd 3 f_added b_added := by
  rintro XX ds Q ⟨_, _, rfl, x, y, rfl, rfl, hq⟩
  obtain ⟨x1, x2, x3⟩ := x
  obtain ⟨y1, y2, y3⟩ := y
  simp [b_added, ini, eC]
  refine lc_map (List.range 3) (fun (k : Nat) => D.int (0 + (k : Int))) (k := .fr) .fr (fun k => D.int ([x1 + y1, x2 + y2, x3 + y3].getD k 0)) rfl (fun Qi h => by simpa [rgD] using h) (by simp) rfl (by decide) (fun k hk K h => ?_) ?_
  · have hk : k < 3 := by simpa using hk
    obtain rfl | rfl | rfl : k = 0 ∨ k = 1 ∨ k = 2 := by omega
    · simp [wipeR]
      exact h _ kf
    · simp [wipeR]
      exact h _ kf
    · simp [wipeR]
      exact h _ kf
  · simp
    exact hq
def f_price : DSp := dsp3 fun a b c Q => ∃ (fs : List Face) (f w : Option Nat), a = .lst (fs.map eF) ∧ b = eO f ∧ c = eO w ∧ (∀ k, f = some k → k < fs.length) ∧ Q (eC (pcC fs f w))
-- _law_price(_law_faces_here, _law_face, _law_want): 0 _law_faces_here 1 _law_face 2 _law_want
@[reducible] def b_price : DTS :=
  (dSeq (dIfS (dB (dOp rdIs (dVar 1) (dC .non))) (dRet (dTup (dCons (dC (.int 0)) (dCons (dC (.int 0)) (dCons (dC (.int 0)) dNil))))) dNext)
    (dRet (dTup (dCons (dC (.int 0)) (dCons (dCB rdIntC (dCons (dAndV (dOp rdIsNot (dVar 2) (dC .non)) (dOp rdNe (dVar 2) (dVar 1))) dNil)) (dCons (dOp rdIx (dOp rdIx (dVar 0) (dVar 1)) (dC (.int 1))) dNil))))))
theorem rd_price : Rd 3 f_price b_price := by
  rintro XX ds Q ⟨_, _, _, rfl, fs, f, w, rfl, rfl, rfl, hk, hq⟩
  cases f with
  | none =>
    simp [b_price, ini]
    simpa [pcC, costL, eC] using hq
  | some k =>
    have hk' := hk k rfl
    have hr : rankOf fs k = fs[k].rank := by simp [rankOf, hk']
    simp [b_price, ini]
    cases w with
    | none =>
      simp [eN, atI_map, atI_nat hk', eF]
      simpa [pcC, costL, eC, hr] using hq
    | some j =>
      simp [eN, atI_map, atI_nat hk', eF]
      by_cases e : j = k
      · subst e
        simpa [pcC, costL, eC, hr] using hq
      · have : (some j : Option Nat) ≠ some k := by simpa using e
        have e2 : ¬ (j : Int) = (k : Int) := by omega
        simpa [pcC, costL, eC, hr, e, e2] using hq
/-- a table of costs, closed -/
def isTab (T : List (Option Nat × Cost)) (d : D) : Prop := ∃ o, d = .dic o (T.map fun p => p.1.map Int.ofNat) (T.map fun p => eC p.2)
theorem tab_flat (T : List (Option Nat × Cost)) : D.flats (T.map fun p => eC p.2) = true := flats_map (fun p => by simp [eC]) _
theorem kD_eO (f : Option Nat) : kD (f.map Int.ofNat) = eO f := by cases f <;> rfl
theorem tab_kD (T : List (Option Nat × Cost)) : (T.map fun p => p.1.map Int.ofNat).map kD = (T.map (·.1)).map eO := by
  rw [List.map_map, List.map_map]
  apply List.map_congr_left
  intro p _
  exact kD_eO p.1
theorem omap_int {f g : Option Nat} : f.map Int.ofNat = g.map Int.ofNat ↔ f = g := by
  cases f <;> cases g <;> simp <;> omega
theorem dAt_tab : ∀ {T : List (Option Nat × Cost)} (hn : (T.map (·.1)).Nodup) {p : Option Nat × Cost}, p ∈ T → dAt (T.map fun p => p.1.map Int.ofNat) (T.map fun p => eC p.2) (p.1.map Int.ofNat) = some (eC p.2)
  | [], _, p, h => nomatch h
  | q :: T, hn, p, h => by
    rw [List.map_cons, List.nodup_cons] at hn
    unfold dAt
    rw [List.map_cons, List.map_cons, List.zip_cons_cons, List.find?_cons]
    by_cases e : q.1 = p.1
    · have : q = p := by
        rcases List.mem_cons.mp h with e2 | h2
        · exact e2.symm
        · exact absurd (List.mem_map.mpr ⟨p, h2, e.symm⟩) hn.1
      subst this
      simp
    · have hp : p ∈ T := by
        rcases List.mem_cons.mp h with e2 | h2
        · rw [e2] at e; exact absurd rfl e
        · exact h2
      have : ¬ (q.1.map Int.ofNat = p.1.map Int.ofNat) := fun z => e (omap_int.mp z)
      rw [decide_eq_false this]
      exact dAt_tab hn.2 hp
def f_behind : DSp := dsp2 fun a b Q => ∃ (T : List (Option Nat × Cost)) (f : Option Nat), isTab T a ∧ b = eO f ∧ (T.map (·.1)).Nodup ∧ T.length ≤ 1000 ∧ Q (eC (behC T f))
-- _law_behind(_law_table, _law_face): 0 _law_table 1 _law_face 2 _law_other
@[reducible] def b_behind : DTS :=
  (dSeq (dIfS (dB (dOp rdEqE (dVar 0) (dC (.dic o0 [] [])))) (dRet (dTup (dCons (dC (.int 0)) (dCons (dC (.int 0)) (dCons (dC (.int 0)) dNil))))) dNext)
    (dRet (dCB rdMinD (dCons (dLc (diKeyF (dVar 0)) (dgName 2) dYes (dCall f_added (dCons (dOp rdIxK (dVar 0) (dVar 2)) (dCons (dTup (dCons (dCB rdIntC (dCons (dOp rdNe (dVar 2) (dVar 1)) dNil)) (dCons (dC (.int 0)) (dCons (dC (.int 0)) dNil)))) dNil))) [2]) dNil))))
theorem rd_behind : Rd 3 f_behind b_behind := by
  rintro XX ds Q ⟨_, _, rfl, T, f, ⟨o, rfl⟩, rfl, hn, hl, hq⟩
  simp [b_behind, ini]
  by_cases hT : T = []
  · subst hT
    exact .inr ⟨rfl, hq⟩
  · refine .inl ⟨hT, ?_⟩
    refine lc_map T (fun p => eO p.1) (k := .fr) .fr (fun p => eC (addC p.2 (if p.1 ≠ f then 1 else 0, 0, 0))) rfl (fun Qi h => ?_) (by omega) rfl (by decide) (fun p hp K h => ?_) ?_
    · simp
      refine ⟨o, _, _, ⟨rfl, rfl, rfl⟩, tab_flat T, ?_⟩
      rw [tab_kD, List.map_map]
      exact h
    · simp [wipeR]
      refine ⟨p.1.map Int.ofNat, (kD_eO p.1).symm, eC p.2, dAt_tab hn hp, ?_⟩
      refine ⟨_, _, rfl, p.2, (if p.1 ≠ f then 1 else 0, 0, 0), rfl, ?_, ?_⟩
      · by_cases e : p.1 = f <;> simp [e, eC]
      · exact h _ (kf (by simp [eC]))
    · have e : T.map (fun p => eC (addC p.2 (if p.1 ≠ f then 1 else 0, 0, 0))) = (T.map fun p => addC p.2 (if p.1 ≠ f then 1 else 0, 0, 0)).map eC := by rw [List.map_map]; rfl
      rw [e]
      refine min_costs (by simpa using hT) ?_
      unfold behC at hq
      rw [if_neg hT] at hq
      exact ⟨by simp [out, eC], hq⟩
/-- the tables from the end on -/
def Tabs (fs : List Face) : List Cand → List D → Prop
  | [], ds => ∃ d, ds = [d] ∧ isTab [] d
  | q :: qs, ds => ∃ d ds', ds = d :: ds' ∧ isTab (tabL fs (q :: qs)) d ∧ Tabs fs qs ds'
theorem Tabs.at {fs : List Face} : ∀ {qs : List Cand} {ds : List D} (h : Tabs fs qs ds) {k : Nat}, k ≤ qs.length → ∃ d, ds[k]? = some d ∧ isTab (tabL fs (qs.drop k)) d
  | [], ds, ⟨d, e, h⟩, k, hk => by
    have : k = 0 := by simpa using hk
    subst this
    rw [e]
    exact ⟨d, rfl, h⟩
  | q :: qs, ds, ⟨d, ds', e, h1, h2⟩, 0, _ => by rw [e]; exact ⟨d, rfl, h1⟩
  | q :: qs, ds, ⟨d, ds', e, h1, h2⟩, k + 1, hk => by
    rw [e]
    exact h2.at (by simpa using hk)
theorem Tabs.len {fs : List Face} : ∀ {qs : List Cand} {ds : List D} (h : Tabs fs qs ds), ds.length = qs.length + 1
  | [], ds, ⟨d, e, h⟩ => by rw [e]; rfl
  | q :: qs, ds, ⟨d, ds', e, h1, h2⟩ => by rw [e, List.length_cons, List.length_cons, h2.len]
theorem isTab.flat {T : List (Option Nat × Cost)} {d : D} (h : isTab T d) : True := trivial
theorem tab_len (fs : List Face) (q : Cand) (qs : List Cand) : (tabL fs (q :: qs)).length = (cands q.1).length := by unfold tabL; simp
theorem cands_nd {l : List Nat} (h : l.Nodup) : (cands l).Nodup := by
  unfold cands
  split
  · simp
  · rw [List.nodup_iff_pairwise_ne, List.pairwise_map]
    rw [List.nodup_iff_pairwise_ne] at h
    exact h.imp fun h e => h (Option.some.inj e)
theorem tab_nd (fs : List Face) {qs : List Cand} (h : ∀ q ∈ qs, q.1.Nodup) : ((tabL fs qs).map (·.1)).Nodup := by
  cases qs with
  | nil => exact List.nodup_nil
  | cons q qs => rw [tab_keys]; exact cands_nd (h q List.mem_cons_self)
theorem cands_len {l : List Nat} : (cands l).length ≤ l.length + 1 := by unfold cands; split <;> simp
/-- every cell: numbers of faces, once each -/
structure EvOk (fs : List Face) (ev : List (List Nat)) : Prop where
  len : ev.length ≤ 1000
  nd : ∀ l ∈ ev, l.Nodup
  lt : ∀ l ∈ ev, CandOk fs l
  few : ∀ l ∈ ev, l.length ≤ 100
def f_best : DSp := dsp3 fun a b c Q => ∃ (fs : List Face) (ev : List (List Nat)) (w : List (Option Nat)), a = .lst (fs.map eF) ∧ b = .lst (ev.map eL) ∧ c = .lst (w.map eO) ∧ w.length = ev.length ∧ EvOk fs ev ∧ Q (.tup [eC (costW fs (ev.zip w) (bestL fs ev w)), eR (bestL fs ev w)])
-- _law_best(_law_faces_here, _law_every_here, _law_wants): 0 _law_faces_here 1 _law_every_here 2 _law_wants 3 _law_tables 4 _law_k 5 _law_table 6 _law_face 7 _law_found 8 _law_some 9 _law_change
@[reducible] def b_best : DTS :=
  (dSeq (dAsg (dLst (dCons (dC (.dic o0 [] [])) dNil)) (dgName 3))
    (dSeq (dFor (diRevRg (dCB rdLen (dCons (dVar 1) dNil))) (dgName 4) (dSeq (dDicO 5)
    (dSeq (dFor (diSq (dOp rdAdd (dOp rdIx (dVar 1) (dVar 4)) (dSl (dLst (dCons (dC .non) dNil)) dNo (dPt (dCB rdIntC (dCons (dOp rdEq (dOp rdIx (dVar 1) (dVar 4)) (dLst dNil)) dNil)))))) (dgName 6) (dDicP 5 (dCall f_added (dCons (dCall f_price (dCons (dVar 0) (dCons (dVar 6) (dCons (dOp rdIx (dVar 2) (dVar 4)) dNil)))) (dCons (dCall f_behind (dCons (dOp rdIx (dVar 3) (dC (.int 0))) (dCons (dVar 6) dNil))) dNil))) (dVar 6)))
    (dShut 5 (dAsg (dOp rdAdd (dLst (dCons (dVar 5) dNil)) (dVar 3)) (dgName 3))))))
    (dSeq (dAsgO 7 (dLst dNil))
    (dSeq (dFor (diRg1 (dCons (dCB rdLen (dCons (dVar 1) dNil)) dNil)) (dgName 4) (dSeq (dAsgO 8 (dLst dNil))
    (dSeq (dFor (diKeyF (dOp rdIx (dVar 3) (dVar 4))) (dgName 6) (dSeq (dAsg (dCB rdIntC (dCons (dAndV (dOp rdNe (dVar 7) (dLst dNil)) (dOp rdNe (dOp rdIx (dVar 7) (dNeg (dC (.int 1)))) (dVar 6))) dNil)) (dgName 9))
    (dApp 8 (dTup (dCons (dCall f_added (dCons (dOp rdIxK (dOp rdIx (dVar 3) (dVar 4)) (dVar 6)) (dCons (dTup (dCons (dVar 9) (dCons (dC (.int 0)) (dCons (dC (.int 0)) dNil)))) dNil))) (dCons (dVar 6) dNil))))))
    (dApp 7 (dOp rdIx (dCB rdMinD (dCons (dVar 8) dNil)) (dC (.int 1)))))))
    (dRel 7 (dRet (dTup (dCons (dCB rdMinD (dCons (dOp rdAdd (dLc (diKeyF (dOp rdIx (dVar 3) (dC (.int 0)))) (dgName 6) dYes (dOp rdIxK (dOp rdIx (dVar 3) (dC (.int 0))) (dVar 6)) [6]) (dOp rdMul (dLst (dCons (dTup (dCons (dC (.int 0)) (dCons (dC (.int 0)) (dCons (dC (.int 0)) dNil)))) dNil)) (dCB rdIntC (dCons (dOp rdEq (dVar 1) (dLst dNil)) dNil)))) dNil)) (dCons (dVar 7) dNil)))))))))
def bst1 : DTS := (dSeq (dDicO 5)
    (dSeq (dFor (diSq (dOp rdAdd (dOp rdIx (dVar 1) (dVar 4)) (dSl (dLst (dCons (dC .non) dNil)) dNo (dPt (dCB rdIntC (dCons (dOp rdEq (dOp rdIx (dVar 1) (dVar 4)) (dLst dNil)) dNil)))))) (dgName 6) (dDicP 5 (dCall f_added (dCons (dCall f_price (dCons (dVar 0) (dCons (dVar 6) (dCons (dOp rdIx (dVar 2) (dVar 4)) dNil)))) (dCons (dCall f_behind (dCons (dOp rdIx (dVar 3) (dC (.int 0))) (dCons (dVar 6) dNil))) dNil))) (dVar 6)))
    (dShut 5 (dAsg (dOp rdAdd (dLst (dCons (dVar 5) dNil)) (dVar 3)) (dgName 3)))))
def bst2 : DTS := (dSeq (dAsgO 8 (dLst dNil))
    (dSeq (dFor (diKeyF (dOp rdIx (dVar 3) (dVar 4))) (dgName 6) (dSeq (dAsg (dCB rdIntC (dCons (dAndV (dOp rdNe (dVar 7) (dLst dNil)) (dOp rdNe (dOp rdIx (dVar 7) (dNeg (dC (.int 1)))) (dVar 6))) dNil)) (dgName 9))
    (dApp 8 (dTup (dCons (dCall f_added (dCons (dOp rdIxK (dOp rdIx (dVar 3) (dVar 4)) (dVar 6)) (dCons (dTup (dCons (dVar 9) (dCons (dC (.int 0)) (dCons (dC (.int 0)) dNil)))) dNil))) (dCons (dVar 6) dNil))))))
    (dApp 7 (dOp rdIx (dCB rdMinD (dCons (dVar 8) dNil)) (dC (.int 1))))))
def bst3 : DTS := (dRel 7 (dRet (dTup (dCons (dCB rdMinD (dCons (dOp rdAdd (dLc (diKeyF (dOp rdIx (dVar 3) (dC (.int 0)))) (dgName 6) dYes (dOp rdIxK (dOp rdIx (dVar 3) (dC (.int 0))) (dVar 6)) [6]) (dOp rdMul (dLst (dCons (dTup (dCons (dC (.int 0)) (dCons (dC (.int 0)) (dCons (dC (.int 0)) dNil)))) dNil)) (dCB rdIntC (dCons (dOp rdEq (dVar 1) (dLst dNil)) dNil)))) dNil)) (dCons (dVar 7) dNil)))))
theorem best_eq : b_best = (dSeq (dAsg (dLst (dCons (dC (.dic o0 [] [])) dNil)) (dgName 3))
    (dSeq (dFor (diRevRg (dCB rdLen (dCons (dVar 1) dNil))) (dgName 4) bst1)
    (dSeq (dAsgO 7 (dLst dNil))
    (dSeq (dFor (diRg1 (dCons (dCB rdLen (dCons (dVar 1) dNil)) dNil)) (dgName 4) bst2)
    bst3)))) := rfl
theorem rev_at {n a : Nat} {p q : List Nat} (e : (List.range n).reverse = p ++ a :: q) : p.length < n ∧ a = n - 1 - p.length := by
  have hl := congrArg List.length e
  simp at hl
  have h1 : (List.range n).reverse[p.length]? = some a := by rw [e]; simp
  rw [List.getElem?_reverse (by simp; omega), List.getElem?_eq_getElem (by simp; omega)] at h1
  simp at h1
  exact ⟨by omega, by omega⟩
abbrev WB (fs : List Face) (ev : List (List Nat)) (w : List (Option Nat)) (a3 a4 a5 a6 a7 a8 a9 : Slot) : Rho :=
  [.v false (.lst (fs.map eF)), .v false (.lst (ev.map eL)), .v false (.lst (w.map eO)), a3, a4, a5, a6, a7, a8, a9]
theorem cands_it {l : List Nat} {Qi : Kd → List D → Prop} (h : ∀ k n, kn k = some n → Qi k ((cands l).map eO)) : True := trivial
theorem cut_cands (l : List Nat) : (cutD [D.non] none (some (if l = [] then 1 else 0))).length + l.length ≤ l.length + 1 ∧ D.flats (cutD [D.non] none (some (if l = [] then 1 else 0))) = true ∧ l.map eN ++ cutD [D.non] none (some (if l = [] then 1 else 0)) = (cands l).map eO := by
  have c1 : cutD [D.non] none (some 1) = [.non] := cutD_to (l := [D.non]) (b := 1)
  have c0 : cutD [D.non] none (some 0) = [] := cutD_to (l := [D.non]) (b := 0)
  by_cases h : l = []
  · subst h
    simp [c1, cands, eO]
  · simp [h, c0, cands]
theorem rd_bst1 {XX : Exn → Prop} {DD : DEnds} {fs : List Face} {ev : List (List Nat)} {w : List (Option Nat)} (hw : w.length = ev.length) (hev : EvOk fs ev) {a : Nat} (ha : a < ev.length) {T : List D} (hT : Tabs fs ((ev.zip w).drop (a + 1)) T)
    (hnx : ∀ T' a5 a6, Tabs fs ((ev.zip w).drop a) T' → DD.nx (WB fs ev w (.v true (.lst T')) (.v true (.int (a : Int))) a5 a6 .e .e .e)) :
    bst1 XX DD (WB fs ev w (.v true (.lst T)) (.v true (.int (a : Int))) .e .e .e .e .e) := by
  unfold bst1
  have haw : a < w.length := by omega
  have hae : atI (ev.map eL) (a : Int) = some (eL ev[a]) := by rw [atI_map, atI_nat ha]; rfl
  have hawe : atI (w.map eO) (a : Int) = some (eO w[a]) := by rw [atI_map, atI_nat haw]; rfl
  have hdrop : (ev.zip w).drop a = (ev[a], w[a]) :: (ev.zip w).drop (a + 1) := by
    rw [List.drop_eq_getElem_cons (by simp; omega)]
    simp
  have hm := List.getElem_mem ha
  have hnd := hev.nd _ hm
  have hlt := hev.lt _ hm
  have hfw := hev.few _ hm
  rw [hdrop] at hnx
  generalize (ev.zip w).drop (a + 1) = qs at hT hnx hdrop
  generalize ev[a] = l at hae hnx hnd hlt hfw
  generalize w[a] = wa at hawe hnx
  have hqn : ((tabL fs qs).map (·.1)).Nodup := tab_nd fs fun q hq => by
    have : q ∈ ev.zip w := List.mem_of_mem_drop (i := a) (by rw [hdrop]; exact List.mem_cons_of_mem _ hq)
    exact hev.nd _ (List.of_mem_zip (show (q.1, q.2) ∈ _ from this)).1
  have hqt : (tabL fs qs).length ≤ 1000 := by
    cases qs with
    | nil => exact Nat.zero_le _
    | cons q qs =>
      rw [tab_len]
      have : q ∈ ev.zip w := List.mem_of_mem_drop (i := a) (by rw [hdrop]; simp)
      have := hev.few _ (List.of_mem_zip (show (q.1, q.2) ∈ _ from this)).1
      have h2 := cands_len (l := q.1)
      omega
  have hevl := hev.len
  simp
  refine for_listS (cands l) eO (k := .fr) (n := true) (fun ps : List (Option Nat × Cost) => WB fs ev w (.v true (.lst T)) (.v true (.int (a : Int))) (.od (ps.map fun p => p.1.map Int.ofNat) (ps.map fun p => eC p.2)) .e .e .e .e)
    (fun p ps => ps = p.map fun f => (f, addC (pcC fs f wa) (behC (tabL fs qs) f))) [] rfl (fun Qi h => ?_) rfl rfl (fun p f q ps e h => ?_) fun ps h => ?_
  · simp [hae, eL]
    obtain ⟨c1, c2, c3⟩ := cut_cands l
    rw [c2, c3]
    exact ⟨by omega, h⟩
  · subst h
    simp [hawe]
    have hfc : f ∈ cands l := by rw [e]; simp
    have hfl : ∀ k, f = some k → k < fs.length := fun k hk => by
      subst hk
      unfold cands at hfc
      split at hfc
      · simp at hfc
      · simp at hfc; exact hlt k hfc
    obtain ⟨d1, hd1, ht1⟩ := hT.at (k := 0) (Nat.zero_le _)
    have hat : atI T 0 = some d1 := by
      have hl0 := (List.getElem?_eq_some_iff.mp hd1).1
      rw [show (0 : Int) = ((0 : Nat) : Int) from rfl, atI_nat hl0]
      rw [List.getElem?_eq_getElem hl0] at hd1
      exact hd1
    have hpl : p.length ≤ 101 := by
      have := congrArg List.length e
      have h2 := cands_len (l := l)
      simp at this
      omega
    have hnp : f ∉ p := fun hp => by
      have := cands_nd hnd
      rw [e, List.nodup_append] at this
      exact this.2.2 f hp f (by simp) rfl
    refine ⟨_, _, _, rfl, fs, f, wa, rfl, rfl, rfl, hfl, d1, hat, ?_⟩
    rw [List.drop_zero] at ht1
    refine ⟨_, _, rfl, tabL fs qs, f, ht1, rfl, hqn, hqt, ?_⟩
    refine ⟨_, _, rfl, _, _, rfl, rfl, _, _, ⟨rfl, rfl⟩, rfl, f.map Int.ofNat, (kD_eO f).symm, ?_, by simp; omega, ⟨rfl, rfl⟩, rfl, rfl⟩
    intro hk
    obtain ⟨g, hg, e2⟩ := List.mem_map.mp hk
    have := omap_int.mp e2
    subst this
    exact hnp hg
  · subst h
    have hk : (cands l).map ((fun p : Option Nat × Cost => Option.map Int.ofNat p.1) ∘ fun f => (f, addC (pcC fs f wa) (behC (tabL fs qs) f))) = (tabL fs ((l, wa) :: qs)).map fun p => p.1.map Int.ofNat := by
      rw [show tabL fs ((l, wa) :: qs) = (cands l).map fun f => (f, addC (pcC fs f wa) (behC (tabL fs qs) f)) from rfl, List.map_map]
    have hd : (cands l).map ((fun p : Option Nat × Cost => eC p.2) ∘ fun f => (f, addC (pcC fs f wa) (behC (tabL fs qs) f))) = (tabL fs ((l, wa) :: qs)).map fun p => eC p.2 := by
      rw [show tabL fs ((l, wa) :: qs) = (cands l).map fun f => (f, addC (pcC fs f wa) (behC (tabL fs qs) f)) from rfl, List.map_map]
    simp
    refine ⟨_, _, ⟨rfl, rfl⟩, fun o => ?_⟩
    rw [hk, hd]
    have hT' : Tabs fs ((l, wa) :: qs) (.dic o ((tabL fs ((l, wa) :: qs)).map fun p => p.1.map Int.ofNat) ((tabL fs ((l, wa) :: qs)).map fun p => eC p.2) :: T) := ⟨_, _, rfl, ⟨o, rfl⟩, hT⟩
    have hfl : D.flats ((tabL fs ((l, wa) :: qs)).map fun p => eC p.2) = true := by
      exact flats_map (fun p => by simp [eC]) _
    have hTl := hT'.len
    generalize (tabL fs ((l, wa) :: qs)).map (fun p => p.1.map Int.ofNat) = ks at hT' hTl
    generalize (tabL fs ((l, wa) :: qs)).map (fun p => eC p.2) = ds at hT' hTl hfl
    refine ⟨?_, .inr ⟨?_, ?_⟩⟩
    · simp at hTl
      have := congrArg List.length hdrop
      simp at this
      omega
    · by_cases z : D.flats T = true
      · simp [z, hfl, stn]
      · simp [z, hfl, stn, Kd.min]
    · exact hnx _ _ _ hT'
theorem rd_bst2 {XX : Exn → Prop} {DD : DEnds} {fs : List Face} {ev : List (List Nat)} {w : List (Option Nat)} {T : List D} {row : List (Option Nat)} (hw : w.length = ev.length) (hev : EvOk fs ev) {k : Nat} (hk : k < ev.length) (hT : Tabs fs (ev.zip w) T) (hrow : row.length = k)
    (hnx : ∀ a6 a8 a9, DD.nx (WB fs ev w (.v true (.lst T)) (.v true (.int (k : Int))) .e a6 (.own true ((row ++ [stepM row.getLast? (tabL fs ((ev.zip w).drop k))]).map eO)) a8 a9)) :
    bst2 XX DD (WB fs ev w (.v true (.lst T)) (.v true (.int (k : Int))) .e .e (.own true (row.map eO)) .e .e) := by
  unfold bst2
  have hevl := hev.len
  obtain ⟨d, hd, o, rfl⟩ := hT.at (k := k) (by simp; omega)
  have hat : atI T (k : Int) = some (.dic o ((tabL fs ((ev.zip w).drop k)).map fun p => p.1.map Int.ofNat) ((tabL fs ((ev.zip w).drop k)).map fun p => eC p.2)) := by
    have hl0 := (List.getElem?_eq_some_iff.mp hd).1
    rw [atI_nat hl0]
    rw [List.getElem?_eq_getElem hl0] at hd
    exact hd
  have hqn : ((tabL fs ((ev.zip w).drop k)).map (·.1)).Nodup := tab_nd fs fun q hq => by
    have : q ∈ ev.zip w := List.mem_of_mem_drop hq
    exact hev.nd _ (List.of_mem_zip (show (q.1, q.2) ∈ _ from this)).1
  have hdrop : (ev.zip w).drop k = (ev[k], w[k]'(by omega)) :: (ev.zip w).drop (k + 1) := by
    rw [List.drop_eq_getElem_cons (by simp; omega)]
    simp
  have hne : tabL fs ((ev.zip w).drop k) ≠ [] := by rw [hdrop]; exact tab_ne fs _ _
  have hqt : (tabL fs ((ev.zip w).drop k)).length ≤ 1000 := by
    rw [hdrop, tab_len]
    have := hev.few _ (List.getElem_mem hk)
    have h2 := cands_len (l := ev[k])
    dsimp only
    omega
  have hkin : ∀ a ∈ tabL fs ((ev.zip w).drop k), ∀ b ∈ tabL fs ((ev.zip w).drop k), a.1.isSome = b.1.isSome := fun a ha b hb => by
    have h1 : a.1 ∈ (tabL fs ((ev.zip w).drop k)).map (·.1) := List.mem_map.mpr ⟨a, ha, rfl⟩
    have h2 : b.1 ∈ (tabL fs ((ev.zip w).drop k)).map (·.1) := List.mem_map.mpr ⟨b, hb, rfl⟩
    rw [hdrop, tab_keys] at h1 h2
    rw [cands_some h1, cands_some h2]
  unfold stepM at hnx
  generalize tabL fs ((ev.zip w).drop k) = TT at hat hqn hne hqt hkin hnx
  simp
  refine for_listS TT (fun p => eO p.1) (k := .fr) (n := true) (fun ps : List (Cost × Option Nat) => WB fs ev w (.v true (.lst T)) (.v true (.int (k : Int))) .e .e (.own true (row.map eO)) (.own true (ps.map eM)) .e)
    (fun p ps => ps = p.map fun p => (addC p.2 (chgP row.getLast? p.1, 0, 0), p.1)) [] rfl (fun Qi h => ?_) rfl rfl (fun p x q ps e h => ?_) fun ps h => ?_
  · simp
    refine ⟨_, hat, _, _, _, rfl, tab_flat TT, ?_⟩
    rw [tab_kD, List.map_map]
    exact h
  · subst h
    have hxm : x ∈ TT := by rw [e]; simp
    have hpl : p.length < 100000 := by
      have := congrArg List.length e
      simp at this
      omega
    have hrd : ∀ K : KQ, K .nw (eC x.2) → rdIxK .nw (.dic o (TT.map fun p => p.1.map Int.ofNat) (TT.map fun p => eC p.2)) .nw (eO x.1) K := fun K h => ⟨x.1.map Int.ofNat, eC x.2, (kD_eO x.1).symm, dAt_tab hqn hxm, h⟩
    simp
    by_cases hr : row = []
    · subst hr
      refine .inl ⟨rfl, hpl, _, hat, hrd _ ?_⟩
      refine ⟨_, _, rfl, x.2, (0, 0, 0), rfl, rfl, ?_⟩
      simp [chgP, eM]
    · have hg := List.getLast?_eq_some_getLast hr
      have hx : atI (row.map eO) (-1) = some (eO (row.getLast hr)) := by
        rw [atI_last (by simpa using hr), List.getLast?_map, hg]
        rfl
      refine .inr ⟨hr, _, hx, by simp, hpl, _, hat, hrd _ ?_⟩
      rw [hg]
      generalize row.getLast hr = g
      have hc : (if deq (eO g) (eO x.1) = false then (1 : Int) else 0) = chgP (some g) x.1 := by
        unfold chgP
        by_cases e3 : g = x.1
        · subst e3; simp
        · have : ¬ x.1 = g := fun z => e3 z.symm
          simp [e3, this]
      rw [hc]
      refine ⟨_, _, rfl, x.2, (chgP (some g) x.1, 0, 0), rfl, rfl, ?_⟩
      simp [eM]
  · subst h
    simp
    have e2 : TT.map (eM ∘ fun p => (addC p.2 (chgP row.getLast? p.1, 0, 0), p.1)) = (TT.map fun p => (addC p.2 (chgP row.getLast? p.1, 0, 0), p.1)).map eM := by rw [List.map_map]
    rw [e2]
    have hne' : (TT.map fun p => (addC p.2 (chgP row.getLast? p.1, 0, 0), p.1)) ≠ [] := by simpa using hne
    have hkin' : ∀ a ∈ (TT.map fun p => (addC p.2 (chgP row.getLast? p.1, 0, 0), p.1)), ∀ b ∈ (TT.map fun p => (addC p.2 (chgP row.getLast? p.1, 0, 0), p.1)), a.2.isSome = b.2.isSome := fun a ha b hb => by
      obtain ⟨x, hx, rfl⟩ := List.mem_map.mp ha
      obtain ⟨y, hy, rfl⟩ := List.mem_map.mp hb
      exact hkin x hx y hy
    generalize (TT.map fun p => (addC p.2 (chgP row.getLast? p.1, 0, 0), p.1)) = ps at hne' hkin' hnx
    refine ⟨by omega, min_pairs hne' hkin' fun c => ?_⟩
    simp [eM]
    have := hnx .e (.own true (ps.map eM)) .e
    simpa [eM] using this
theorem rd_bst3 {XX : Exn → Prop} {DD : DEnds} {fs : List Face} {ev : List (List Nat)} {w : List (Option Nat)} {T : List D} {row : List (Option Nat)} (hw : w.length = ev.length) (hev : EvOk fs ev) (hT : Tabs fs (ev.zip w) T)
    (hq : DD.rt (.tup [eC (costW fs (ev.zip w) (bestL fs ev w)), eR row])) :
    bst3 XX DD (WB fs ev w (.v true (.lst T)) .e .e .e (.own true (row.map eO)) .e .e) := by
  unfold bst3
  have hevl := hev.len
  obtain ⟨d, hd, o, rfl⟩ := hT.at (k := 0) (Nat.zero_le _)
  rw [List.drop_zero] at hd
  have hat : atI T 0 = some (.dic o ((tabL fs (ev.zip w)).map fun p => p.1.map Int.ofNat) ((tabL fs (ev.zip w)).map fun p => eC p.2)) := by
    have hl0 := (List.getElem?_eq_some_iff.mp hd).1
    rw [show (0 : Int) = ((0 : Nat) : Int) from rfl, atI_nat hl0]
    rw [List.getElem?_eq_getElem hl0] at hd
    exact hd
  have hqn : ((tabL fs (ev.zip w)).map (·.1)).Nodup := tab_nd fs fun q hq => hev.nd _ (List.of_mem_zip (show (q.1, q.2) ∈ _ from hq)).1
  obtain ⟨_, _, h3⟩ := gr_spec fs (ev.zip w) none
  rw [gr_best fs hw] at h3
  have hrow : RowOf (ev.zip w) (bestL fs ev w) := (RowE_of hw).mpr (bestL_row fs hw)
  have hcost : cF fs none (ev.zip w) (bestL fs ev w) = costW fs (ev.zip w) (bestL fs ev w) := by
    rw [cF_eq fs _ _ none hrow.len]
    cases bestL fs ev w <;> simp [addC, chgP]
  rw [hcost] at h3
  have h3 : ev ≠ [] → leastC ((tabL fs (ev.zip w)).map (·.2)) = costW fs (ev.zip w) (bestL fs ev w) := fun h => by
    have := h3 (by
      cases ev with
      | nil => exact absurd rfl h
      | cons x ev =>
        cases w with
        | nil => simp at hw
        | cons y w => simp)
    rw [← this]
    congr 1
    apply List.map_congr_left
    intro p _
    simp [addC, chgP]
  have hz : ev = [] → costW fs (ev.zip w) (bestL fs ev w) = (0, 0, 0) := fun h => by
    subst h
    have : w = [] := by simpa using hw
    subst this
    rfl
  have hqt : (tabL fs (ev.zip w)).length ≤ 1000 := by
    cases h : ev.zip w with
    | nil => exact Nat.zero_le _
    | cons q qs =>
      rw [tab_len]
      have := hev.few _ (List.of_mem_zip (show (q.1, q.2) ∈ ev.zip w by rw [h]; simp)).1
      have h2 := cands_len (l := q.1)
      omega
  have hemp : tabL fs (ev.zip w) = [] ↔ ev = [] := by
    constructor
    · intro h
      cases ev with
      | nil => rfl
      | cons x ev =>
        cases w with
        | nil => simp at hw
        | cons y w => exact absurd h (tab_ne fs _ _)
    · rintro rfl
      rfl
  generalize costW fs (ev.zip w) (bestL fs ev w) = c0 at h3 hz hq
  generalize tabL fs (ev.zip w) = TT at hat hqn hqt h3 hemp
  simp
  refine lc_map TT (fun p => eO p.1) (k := .fr) .fr (fun p => eC p.2) rfl (fun Qi h => ?_) (by omega) rfl (by decide) (fun p hp K h => ?_) ?_
  · simp
    refine ⟨_, hat, _, _, _, rfl, tab_flat TT, ?_⟩
    rw [tab_kD, List.map_map]
    exact h
  · simp [wipeR]
    exact ⟨_, hat, p.1.map Int.ofNat, eC p.2, (kD_eO p.1).symm, dAt_tab hqn hp, h _ (kf (by simp [eC]))⟩
  · simp
    have hall : TT.map (fun p => eC p.2) ++ List.replicate (if ev = [] then (1 : Int) else 0).toNat (D.tup [D.int 0, D.int 0, D.int 0]) = (if ev = [] then [((0, 0, 0) : Cost)] else TT.map (·.2)).map eC := by
      by_cases h : ev = []
      · rw [hemp.mpr h]
        simp [h, eC]
      · simp [h]
    rw [hall]
    have hne : (if ev = [] then [((0, 0, 0) : Cost)] else TT.map (·.2)) ≠ [] := by
      by_cases h : ev = []
      · simp [h]
      · have : TT ≠ [] := fun z => h (hemp.mp z)
        simp [h, this]
    have hle : leastC (if ev = [] then [((0, 0, 0) : Cost)] else TT.map (·.2)) = c0 := by
      by_cases h : ev = []
      · rw [if_pos h, hz h]
        rfl
      · rw [if_neg h]
        exact h3 h
    have hi : (if ev = [] then (1 : Int) else 0) = 1 ∨ (if ev = [] then (1 : Int) else 0) = 0 := by split <;> simp
    refine ⟨by omega, by omega, by omega, by omega, min_costs hne ?_⟩
    rw [hle]
    exact ⟨trivial, hq⟩
theorem rd_best : Rd 10 f_best b_best := by
  rintro XX ds Q ⟨_, _, _, rfl, fs, ev, w, rfl, rfl, rfl, hw, hev, hq⟩
  have hl := hev.len
  rw [best_eq]
  simp [ini]
  refine for_listS (List.range ev.length).reverse (fun (k : Nat) => D.int (0 + (k : Int))) (k := .fr) (fun T : List D => WB fs ev w (.v true (.lst T)) .e .e .e .e .e .e) (fun p T => Tabs fs ((ev.zip w).drop (ev.length - p.length)) T) [.dic o0 [] []] rfl (fun Qi h => ?_) rfl ?_ (fun p a q T e h => ?_) fun T h => ?_
  · simp
    refine ⟨by omega, ?_⟩
    rw [List.map_reverse] at h
    exact h
  · simp
    rw [List.drop_of_length_le (by simp; omega)]
    exact ⟨_, rfl, o0, rfl⟩
  · obtain ⟨h1, rfl⟩ := rev_at e
    rw [show ev.length - p.length = (ev.length - 1 - p.length) + 1 by omega] at h
    simp
    rw [show ((ev.length - 1 - p.length : Nat) : Int) = ((ev.length - 1 - p.length : Nat) : Int) from rfl]
    refine rd_bst1 hw hev (by omega) h fun T' a5 a6 h' => ?_
    refine ⟨T', by simp, ?_⟩
    try rw [List.length_append, List.length_singleton]
    rw [show ev.length - (p.length + 1) = ev.length - 1 - p.length by omega]
    exact h'
  · have hT : Tabs fs (ev.zip w) T := by simpa using h
    simp
    refine for_rangeS 0 ev.length (fun row : List (Option Nat) => WB fs ev w (.v true (.lst T)) .e .e .e (.own true (row.map eO)) .e .e) (fun k row => row.length = k ∧ grL fs none (ev.zip w) = row ++ grL fs row.getLast? ((ev.zip w).drop k)) [] (fun Q h => by simp; exact ⟨by omega, h⟩) rfl (by simp) (fun k row hk h => ?_) fun row h => ?_
    · obtain ⟨h1, h2⟩ := h
      simp
      refine rd_bst2 hw hev hk hT h1 fun a6 a8 a9 => ?_
      refine ⟨row ++ [stepM row.getLast? (tabL fs ((ev.zip w).drop k))], by simp, ?_, ?_⟩
      · simp [h1]
      · have hdrop : (ev.zip w).drop k = (ev[k], w[k]'(by omega)) :: (ev.zip w).drop (k + 1) := by
          rw [List.drop_eq_getElem_cons (by simp; omega)]
          simp
        rw [h2, hdrop]
        simp [grL]
    · obtain ⟨h1, h2⟩ := h
      rw [List.drop_of_length_le (by simp; omega)] at h2
      have h3 : row = bestL fs ev w := by
        rw [← gr_best fs hw, h2]
        simp [grL]
      subst h3
      exact rd_bst3 hw hev hT hq
end HD

set_option Elab.async false
set_option linter.all false
set_option maxRecDepth 100000
set_option maxHeartbeats 1000000
/-! readings: a case written and read -/
namespace HD
open PySem PySem.Spec PyProof.Rows L2
theorem joinL_len (s : List Nat) : ∀ ws : List (List Nat), (TL.joinL s ws).length ≤ (ws.map (·.length)).sum + ws.length * s.length
  | [] => by simp [TL.joinL]
  | [p] => by simp [TL.joinL]
  | p :: q :: r => by
    have ih := joinL_len s (q :: r)
    simp only [TL.joinL, List.length_append, List.map_cons, List.sum_cons, List.length_cons, Nat.add_mul, Nat.one_mul] at ih ⊢
    omega
theorem join_len (y : Str) (ws : List Str) : (Txt.join y ws).length ≤ (ws.map (·.length)).sum + ws.length * y.length := by
  rw [TL.join_eq, TL.len_tl, TL.tl_join]
  have := joinL_len (TL.tl y) (ws.map TL.tl)
  rw [List.map_map, List.length_map, ← TL.len_tl] at this
  have e : ws.map ((·.length) ∘ TL.tl) = ws.map (·.length) := List.map_congr_left fun x _ => (TL.len_tl x).symm
  rw [e] at this
  exact this
/-- a number's text -/
def numT (i : Int) : Str := toString i
@[simp] theorem numT_r (i : Int) : Str.ofString i.repr = numT i := rfl
theorem log_ok {i : Int} (h : 0 ≤ i) (h2 : i < 1000) : i.natAbs.log2 < 1920 := Nat.lt_of_le_of_lt (Nat.log2_le_self _) (by omega)
theorem numT_tl {i : Int} (h : 0 ≤ i) : TL.tl (numT i) = TL.numL i.toNat := by
  obtain ⟨n, rfl⟩ : ∃ n : Nat, i = n := ⟨i.toNat, by omega⟩
  exact TL.tl_num n
theorem numT_len {i : Int} (h : 0 ≤ i) (h2 : i < 1000) : (numT i).length ≤ 3 := by
  rw [TL.len_tl, numT_tl h]
  exact TL.numL_len (k := 3) (by decide) (by omega)
def numsT (f : Face) : List Str := (f.rank :: f.signs).map numT
structure FaceN (f : Face) : Prop where
  nm : NameOk f.name
  rk : 0 ≤ f.rank ∧ f.rank ≤ 9
  sg : SignsOk f.signs
theorem FacesOk.at {fs : List Face} (h : FacesOk fs) {f : Face} (hf : f ∈ fs) : FaceN f := ⟨h.nm f hf, h.rk f hf, h.sg f hf⟩
theorem FaceN.num {f : Face} (h : FaceN f) : ∀ i ∈ f.rank :: f.signs, 0 ≤ i ∧ i < 1000 := fun i hi => by
  rcases List.mem_cons.mp hi with e | hi
  · have := h.rk; omega
  · have := h.sg.2.1 i hi; omega
theorem sum_le {α : Type} (f : α → Nat) (k : Nat) : ∀ l : List α, (∀ x ∈ l, f x ≤ k) → (l.map f).sum ≤ l.length * k
  | [], _ => by simp
  | x :: l, h => by
    have h1 := sum_le f k l fun y hy => h y (by simp [hy])
    have h2 := h x (by simp)
    simp only [List.map_cons, List.sum_cons, List.length_cons, Nat.add_mul, Nat.one_mul]
    omega
theorem FaceN.sum {f : Face} (h : FaceN f) : ((numsT f).map (·.length)).sum ≤ 303 ∧ (numsT f).length ≤ 101 := by
  have hl := h.sg.1
  have e : (numsT f).length = f.signs.length + 1 := by simp [numsT]
  have := sum_le (·.length) 3 (numsT f) fun x hx => by
    obtain ⟨i, hi, rfl⟩ := List.mem_map.mp hx
    have := h.num i hi
    exact numT_len this.1 this.2
  refine ⟨?_, by omega⟩
  refine Nat.le_trans this ?_
  omega
def rowT (f : Face) : Str := ("face " : Str) ++ f.name ++ (" " : Str) ++ Txt.join (" " : Str) (numsT f)
def textT (fs : List Face) : Str := Txt.join ("\n" : Str) (fs.map rowT)
theorem len_app {a b : Str} : (a ++ b).length = a.length + b.length := by rw [TL.len_tl, TL.tl_append, List.length_append, TL.len_tl a, TL.len_tl b]
theorem FaceN.row {f : Face} (h : FaceN f) : (Txt.join (" " : Str) (numsT f)).length ≤ 404 ∧ (rowT f).length ≤ 420 := by
  obtain ⟨h1, h2⟩ := h.sum
  have h3 := join_len (" " : Str) (numsT f)
  have h4 : (" " : Str).length = 1 := by decide +kernel
  have h5 : ("face " : Str).length = 5 := by decide +kernel
  have h6 := h.nm.ok.2.2
  rw [h4] at h3
  refine ⟨by omega, ?_⟩
  unfold rowT
  rw [len_app, len_app, len_app, h4, h5]
  omega
theorem join_cons2 (y x z : Str) (r : List Str) : Txt.join y (x :: z :: r) = x ++ y ++ Txt.join y (z :: r) := by rw [TL.join_eq, TL.join_eq]; rfl
/-- a row by its words -/
theorem rowT_words (f : Face) : rowT f = Txt.join (" " : Str) (("face" : Str) :: f.name :: numsT f) := by
  have hn : numsT f = numT f.rank :: f.signs.map numT := rfl
  rw [join_cons2, hn, join_cons2]
  unfold rowT
  rw [hn]
  refine TL.ext_tl ?_
  simp only [TL.tl_append]
  rw [show TL.tl ("face " : Str) = TL.tl ("face" : Str) ++ TL.tl (" " : Str) by decide +kernel]
  simp only [List.append_assoc]
theorem rows_sum {fs : List Face} (hf : FacesOk fs) : ((fs.map rowT).map (·.length)).sum + (fs.map rowT).length * ("\n" : Str).length ≤ 10000 := by
  have h8 := hf.len
  have h4 : ("\n" : Str).length = 1 := by decide +kernel
  have := sum_le (·.length) 420 (fs.map rowT) fun x hx => by
    obtain ⟨f, hm, rfl⟩ := List.mem_map.mp hx
    exact (hf.at hm).row.2
  rw [h4]
  simp only [List.length_map] at this ⊢
  omega
def f_text_of : DSp := dsp1 fun a Q => ∃ fs : List Face, a = .lst (fs.map eF) ∧ FacesOk fs ∧ Q (.str (textT fs))
-- _law_text_of(_law_faces_here): 0 _law_faces_here 1 _law_rows 2 _law_name 3 _law_rank 4 _law_signs_here 5 _law_number
@[reducible] def b_text_of : DTS :=
  (dSeq (dAsgO 1 (dLst dNil))
    (dSeq (dFor (diSq (dVar 0)) (dgTup 3 (dgCons (dgName 2) (dgCons (dgName 3) (dgCons (dgName 4) dgNil)))) (dApp 1 (dOp rdAdd (dOp rdAdd (dOp rdAdd (dC (.str ("face " : Str))) (dVar 2)) (dC (.str (" " : Str)))) (dJoin (dC (.str (" " : Str))) (dLc (diSq (dOp rdAdd (dTup (dCons (dVar 3) dNil)) (dVar 4))) (dgName 5) dYes (dCB rdStrC (dCons (dVar 5) dNil)) [5])))))
    (dRet (dJoin (dC (.str ("\n" : Str))) (dVar 1)))))
theorem rd_text_of : Rd 6 f_text_of b_text_of := by
  rintro XX ds Q ⟨_, rfl, fs, rfl, hf, hq⟩
  have h8 := hf.len
  simp [b_text_of, ini]
  refine for_listS fs eF (k := .sf) (fun rows : List Str => [.v false (.lst (fs.map eF)), .own true (rows.map .str), .e, .e, .e, .e]) (fun p rows => rows = p.map rowT) [] rfl (fun Qi h => by simpa using h) rfl rfl (fun p f q rows e h => ?_) fun rows h => ?_
  · subst h
    have hfn := hf.at (f := f) (by rw [e]; simp)
    have hn := hfn.num
    have hs := hfn.sum
    have hr := hfn.row
    have hnl := hfn.nm.ok.2.2
    have hpl : p.length < 100000 := by
      have := congrArg List.length e
      simp at this
      omega
    have h4 : (" " : Str).length = 1 := by decide +kernel
    have h5 : ("face " : Str).length = 5 := by decide +kernel
    simp [eF]
    refine ⟨by omega, by rw [h5]; omega, by rw [len_app, h4, h5]; omega, ?_⟩
    refine lc_map (f.rank :: f.signs) D.int (k := .sf) .fr (fun i => .str (numT i)) rfl (fun Qi h => by have := hfn.sg.1; simp [tints] at h ⊢; exact ⟨by omega, h⟩) (by have := hfn.sg.1; simp; omega) rfl (by decide) (fun i hi K hk => ?_) ?_
    · simp [wipeR]
      have := hn i hi
      exact ⟨log_ok this.1 this.2, hk _ kf⟩
    · refine ⟨numsT f, by unfold numsT; rw [List.map_map]; rfl, by rw [h4]; omega, by rw [len_app, len_app, h4, h5]; omega, rfl⟩
  · subst h
    have := rows_sum hf
    simp
    exact ⟨fs.map rowT, by simp, by omega, hq⟩
def f_written : DSp := dsp1 fun a Q => ∃ fs : List Face, a = .obj (fs.map eF) ∧ FacesOk fs ∧ Q (.str (textT fs))
-- written(case): 0 case 1 rows 2 name 3 rank 4 signs 5 sign
@[reducible] def b_written : DTS :=
  (dSeq (dAsgO 1 (dLst dNil))
    (dSeq (dFor (diSq (dMeth f_faces (dVar 0) dNil)) (dgTup 3 (dgCons (dgName 2) (dgCons (dgName 3) (dgCons (dgName 4) dgNil)))) (dApp 1 (dJoin (dC (.str (" " : Str))) (dOp rdAdd (dLst (dCons (dC (.str ("face" : Str))) (dCons (dVar 2) (dCons (dCB rdStrC (dCons (dVar 3) dNil)) dNil)))) (dLc (diSq (dVar 4)) (dgName 5) dYes (dCB rdStrC (dCons (dVar 5) dNil)) [5])))))
    (dRet (dJoin (dC (.str ("\n" : Str))) (dVar 1)))))
theorem rd_written : Rd 6 f_written b_written := by
  rintro XX ds Q ⟨_, rfl, fs, rfl, hf, hq⟩
  have h8 := hf.len
  simp [b_written, ini]
  refine for_listS fs eF (k := .fr) (fun rows : List Str => [.v false (.obj (fs.map eF)), .own true (rows.map .str), .e, .e, .e, .e]) (fun p rows => rows = p.map rowT) [] rfl (fun Qi h => by simpa using h) rfl rfl (fun p f q rows e h => ?_) fun rows h => ?_
  · subst h
    have hfn := hf.at (f := f) (by rw [e]; simp)
    have hn := hfn.num
    have hs := hfn.sum
    have hr := hfn.row
    have hpl : p.length < 100000 := by
      have := congrArg List.length e
      simp at this
      omega
    have h4 : (" " : Str).length = 1 := by decide +kernel
    have h5 : ("face" : Str).length = 4 := by decide +kernel
    have h6 := hfn.nm.ok.2.2
    have hrk := hfn.rk
    simp [eF]
    refine ⟨by omega, log_ok (by omega) (by omega), ?_⟩
    refine lc_map f.signs D.int (k := .nw) .fr (fun i => .str (numT i)) rfl (fun Qi h => by simpa [tints] using h) (by have := hfn.sg.1; omega) rfl (by decide) (fun i hi K hk => ?_) ?_
    · simp [wipeR]
      have := hn i (by simp [hi])
      exact ⟨log_ok this.1 this.2, hk _ kf⟩
    · simp
      have hsl := hfn.sg.1
      refine ⟨by omega, ("face" : Str) :: f.name :: numsT f, by unfold numsT; simp, ?_, (rowT_words f).symm⟩
      rw [h4]
      simp only [List.map_cons, List.sum_cons, List.length_cons, h5]
      omega
  · subst h
    have := rows_sum hf
    simp
    exact ⟨fs.map rowT, by simp, by omega, hq⟩
theorem intT {i : Int} (h : 0 ≤ i) (h2 : i < 1000) : PySem.intText? (numT i) = some i := by
  obtain ⟨n, rfl⟩ : ∃ n : Nat, i = n := ⟨i.toNat, by omega⟩
  exact TL.int_num (by have := TL.numL_len (n := n) (k := 3) (by decide) (by omega); omega)
theorem numT_tl' {i : Int} (h : 0 ≤ i) : (numT i).cps.toList = TL.numL i.toNat := numT_tl h
def f_number_of : DSp := dsp2 fun a b Q => ∃ i : Int, a = .str (numT i) ∧ b.scl = true ∧ 0 ≤ i ∧ i < 1000 ∧ Q (.int i)
-- number_of(word, row): 0 word 1 row 2 sign
@[reducible] def b_number_of : DTS :=
  (dSeq (dIfS (dOr (dNot (dB (dChain rdLe rdLe (dC (.int 1)) (dCB rdLen (dCons (dVar 0) dNil)) (dC (.int 3))))) (dB (dOp rdNe (dLc (diSq (dVar 0)) (dgName 2) (dB (dOp (rdIn true) (dVar 2) (dC (.str ("0123456789" : Str))))) (dVar 2) [2]) (dLst dNil)))) dNever dNext)
    (dSeq (dIfS (dAnd (dB (dOp rdEq (dOp rdIx (dVar 0) (dC (.int 0))) (dC (.str ("0" : Str))))) (dB (dOp rdNe (dVar 0) (dC (.str ("0" : Str)))))) dNever dNext)
    (dRet (dCB rdIntC (dCons (dVar 0) dNil)))))
theorem rd_number_of : Rd 3 f_number_of b_number_of := by
  rintro XX ds Q ⟨_, w, rfl, i, rfl, hw, h0, h1, hq⟩
  have hl := numT_len h0 h1
  have hd := TL.numL_digits i.toNat
  have hne := TL.numL_ne i.toNat
  rw [← numT_tl h0] at hd hne
  have hl1 : 1 ≤ (numT i).length := by
    rw [TL.len_tl]
    exact List.length_pos_iff.mpr hne
  have hlen : (numT i).cps.toList.length = (numT i).length := by simp [Str.length]
  have hd' : ∀ c ∈ (numT i).cps.toList, 48 ≤ c ∧ c ≤ 57 := fun c hc => by have := hd c hc; omega
  have hsok : PyData.strOk (numT i) = true := by
    unfold PyData.strOk
    rw [← Array.all_toList, List.all_eq_true]
    intro c hc
    have := hd' c hc
    simp
    omega
  have hdig : ∀ c, 48 ≤ c ∧ c ≤ 57 → c ∈ ("0123456789" : Str).cps := fun c hc => by
    have : ∀ k, k < 10 → (48 + k) ∈ ("0123456789" : Str).cps := by decide +kernel
    have h := this (c - 48) (by omega)
    rwa [show 48 + (c - 48) = c by omega] at h
  obtain ⟨c, l, hcl⟩ : ∃ c l, (numT i).cps.toList = c :: l := List.exists_cons_of_ne_nil hne
  have hat : atI (numT i).cps.toList 0 = some c := by
    rw [hcl]
    exact atI_nat (j := 0) (by simp)
  have hc0 : c = 48 → numT i = ("0" : Str) := fun e => by
    have hz : ∀ n, n < 1000 → (TL.numL n).head? = some 48 → n = 0 := by decide +kernel
    have := hz i.toNat (by omega) (by rw [← numT_tl' h0, hcl, e]; rfl)
    have e2 : i = 0 := by omega
    subst e2
    rfl
  have hfin : rdIntC Kd.sf [D.str (numT i)] fun k d => out k d ∧ Q d := ⟨i, intT h0 h1, by omega, trivial, hq⟩
  simp [b_number_of, ini]
  refine ⟨by omega, by omega, by omega, ?_⟩
  refine lc_fil (numT i).cps.toList sgD (k := .sf) .fr (fun c => !decide (c ∈ ("0123456789" : Str).cps)) sgD rfl (fun Qi h => by simpa using h) (by rw [hlen]; omega) rfl (by decide) (fun c hc K K0 h1 h0 => ?_) ?_
  · simp [wipeR, sgD]
    have := hdig c (hd' c hc)
    exact .inl ⟨this, h0 (by simp [this])⟩
  · have hf : (numT i).cps.toList.filter (fun c => !decide (c ∈ ("0123456789" : Str).cps)) = [] := by
      rw [List.filter_eq_nil_iff]
      intro c hc
      simp [hdig c (hd' c hc)]
    rw [hf]
    have hc1 := hd' c (by rw [hcl]; simp)
    refine ⟨by simp, by simp, by omega, c, hat, str1 c (by omega), by decide +kernel, ?_⟩
    by_cases e : c = 48
    · subst e
      exact .inr ⟨rfl, hsok, by decide +kernel, hc0 rfl, hfin⟩
    · refine .inl ⟨fun z => e ?_, hfin⟩
      have := congrArg (fun s : Str => s.cps.toList) z
      have h48 : ("0" : Str).cps.toList = [48] := by decide +kernel
      simp [h48] at this
      exact this
theorem letter_no {c : Nat} (h : letters.contains c = true) : c ≠ 10 ∧ c ≠ 32 := by
  have : ∀ c ∈ letters, c ≠ 10 ∧ c ≠ 32 := by decide +kernel
  exact this c (by simpa using h)
theorem FaceN.words {f : Face} (h : FaceN f) : ∀ w ∈ ("face" : Str) :: f.name :: numsT f, ∀ c ∈ TL.tl w, c ≠ 10 ∧ c ≠ 32 := fun w hw c hc => by
  rcases List.mem_cons.mp hw with e | hw
  · subst e
    have : ∀ c ∈ TL.tl ("face" : Str), c ≠ 10 ∧ c ≠ 32 := by decide +kernel
    exact this c hc
  · rcases List.mem_cons.mp hw with e | hw
    · subst e
      obtain ⟨l, e, _, _, hl⟩ := h.nm
      rw [e] at hc
      exact letter_no (hl c (by simpa using hc))
    · obtain ⟨i, hi, rfl⟩ := List.mem_map.mp hw
      have h0 := h.num i hi
      rw [numT_tl h0.1] at hc
      have := TL.numL_digits i.toNat c hc
      omega
theorem FaceN.split {f : Face} (h : FaceN f) : Txt.split (rowT f) (" " : Str) = ("face" : Str) :: f.name :: numsT f := by
  rw [rowT_words]
  exact TL.split_join (s := 32) (S := []) (by decide +kernel) (by decide +kernel) (by simp) fun w hw hc => (h.words w hw 32 hc).2 rfl
theorem mem_joinL {s : List Nat} {c : Nat} : ∀ {ws : List (List Nat)}, c ∈ TL.joinL s ws → c ∈ s ∨ ∃ w ∈ ws, c ∈ w
  | [], h => by simp [TL.joinL] at h
  | [p], h => .inr ⟨p, by simp, h⟩
  | p :: q :: r, h => by
    have h : c ∈ p ++ (s ++ TL.joinL s (q :: r)) := h
    rcases List.mem_append.mp h with h | h
    · exact .inr ⟨p, by simp, h⟩
    · rcases List.mem_append.mp h with h | h
      · exact .inl h
      · rcases mem_joinL h with h | ⟨w, hw, h⟩
        · exact .inl h
        · exact .inr ⟨w, List.mem_cons_of_mem _ hw, h⟩
theorem FaceN.no10 {f : Face} (h : FaceN f) : 10 ∉ TL.tl (rowT f) := fun hc => by
  rw [rowT_words, TL.join_eq, TL.tl_join] at hc
  rcases mem_joinL hc with hc | ⟨w, hw, hc⟩
  · revert hc
    decide +kernel
  · obtain ⟨x, hx, rfl⟩ := List.mem_map.mp hw
    exact (h.words x hx 10 hc).1 rfl
theorem letter_small {c : Nat} (h : letters.contains c = true) : c < 1114112 := letter_lt h
theorem FaceN.small {f : Face} (h : FaceN f) : ∀ w ∈ ("face" : Str) :: f.name :: numsT f, ∀ c ∈ TL.tl w, c < 1114112 := fun w hw c hc => by
  rcases List.mem_cons.mp hw with e | hw
  · subst e
    have : ∀ c ∈ TL.tl ("face" : Str), c < 1114112 := by decide +kernel
    exact this c hc
  · rcases List.mem_cons.mp hw with e | hw
    · subst e
      obtain ⟨l, e, _, _, hl⟩ := h.nm
      rw [e] at hc
      exact letter_lt (hl c (by simpa using hc))
    · obtain ⟨i, hi, rfl⟩ := List.mem_map.mp hw
      have h0 := h.num i hi
      rw [numT_tl h0.1] at hc
      have := TL.numL_digits i.toNat c hc
      omega
theorem FaceN.rsmall {f : Face} (h : FaceN f) : ∀ c ∈ TL.tl (rowT f), c < 1114112 := fun c hc => by
  rw [rowT_words, TL.join_eq, TL.tl_join] at hc
  rcases mem_joinL hc with hc | ⟨w, hw, hc⟩
  · have : ∀ c ∈ TL.tl (" " : Str), c < 1114112 := by decide +kernel
    exact this c hc
  · obtain ⟨x, hx, rfl⟩ := List.mem_map.mp hw
    exact h.small x hx c hc
theorem textT_ok {fs : List Face} (hf : FacesOk fs) : PyData.strOk (textT fs) = true := by
  have key : ∀ c ∈ TL.tl (textT fs), c < 1114112 := fun c hc => by
    unfold textT at hc
    rw [TL.join_eq, TL.tl_join] at hc
    rcases mem_joinL hc with hc | ⟨w, hw, hc⟩
    · have : ∀ c ∈ TL.tl ("\n" : Str), c < 1114112 := by decide +kernel
      exact this c hc
    · obtain ⟨x, hx, rfl⟩ := List.mem_map.mp hw
      obtain ⟨f, hm, rfl⟩ := List.mem_map.mp hx
      exact (hf.at hm).rsmall c hc
  unfold PyData.strOk
  rw [← Array.all_toList, List.all_eq_true]
  intro c hc
  simpa using key c hc
theorem rows_split {fs : List Face} (hf : FacesOk fs) (h0 : fs ≠ []) : Txt.split (textT fs) ("
" : Str) = fs.map rowT :=
  TL.split_join (s := 10) (S := []) (by decide +kernel) (by decide +kernel) (by simpa using h0) fun w hw hc => by
    obtain ⟨f, hm, rfl⟩ := List.mem_map.mp hw
    exact (hf.at hm).no10 hc
theorem textT_len {fs : List Face} (hf : FacesOk fs) : (textT fs).length ≤ 10000 := Nat.le_trans (join_len _ _) (rows_sum hf)
theorem textT_ne {fs : List Face} (h0 : fs ≠ []) : textT fs ≠ ("" : Str) := fun e => by
  cases fs with
  | nil => exact h0 rfl
  | cons f fs =>
    have h1 : 102 ∈ TL.tl (textT (f :: fs)) := by
      unfold textT
      rw [TL.join_eq, TL.tl_join]
      have h2 : 102 ∈ TL.tl (rowT f) := by
        unfold rowT
        rw [TL.tl_append, TL.tl_append, TL.tl_append]
        have : 102 ∈ TL.tl ("face " : Str) := by decide +kernel
        simp [this]
      cases fs with
      | nil => exact h2
      | cons g fs => exact List.mem_append_left _ h2
    rw [e] at h1
    revert h1
    decide +kernel
def f_read : DSp := dsp1 fun a Q => ∃ fs : List Face, a = .str (textT fs) ∧ FacesOk fs ∧ Q (.obj (fs.map eF))
-- read(text): 0 text 1 faces 2 rows 3 row 4 words 5 numbers 6 word
@[reducible] def b_read : DTS :=
  (dSeq (dAsgO 1 (dLst dNil))
    (dSeq (dAsg (dIf (dB (dOp rdNe (dVar 0) (dC (.str ("" : Str))))) (dSplit (dVar 0) (dC (.str ("\n" : Str)))) (dLst dNil)) (dgName 2))
    (dSeq (dFor (diRg1 (dCons (dCB rdLen (dCons (dVar 2) dNil)) dNil)) (dgName 3) (dSeq (dAsg (dSplit (dOp rdIx (dVar 2) (dVar 3)) (dC (.str (" " : Str)))) (dgName 4))
    (dSeq (dIfS (dOr (dB (dOp rdLt (dCB rdLen (dCons (dVar 4) dNil)) (dC (.int 3)))) (dOr (dB (dOp rdNe (dOp rdIx (dVar 4) (dC (.int 0))) (dC (.str ("face" : Str))))) (dNot (dB (dCall f_is_name (dCons (dOp rdIx (dVar 4) (dC (.int 1))) dNil)))))) dNever dNext)
    (dSeq (dAsg (dLc (diSq (dSl (dVar 4) (dPt (dC (.int 2))) dNo)) (dgName 6) dYes (dCall f_number_of (dCons (dVar 6) (dCons (dVar 3) dNil))) [6]) (dgName 5))
    (dApp 1 (dTup (dCons (dOp rdIx (dVar 4) (dC (.int 1))) (dCons (dOp rdIx (dVar 5) (dC (.int 0))) (dCons (dCB rdTuple (dCons (dSl (dVar 5) (dPt (dC (.int 1))) dNo) dNil)) dNil)))))))))
    (dRet (dMake f_Case (dCons (dVar 1) dNil))))))
def red2 : DTS := (dSeq (dAsg (dSplit (dOp rdIx (dVar 2) (dVar 3)) (dC (.str (" " : Str)))) (dgName 4))
    (dSeq (dIfS (dOr (dB (dOp rdLt (dCB rdLen (dCons (dVar 4) dNil)) (dC (.int 3)))) (dOr (dB (dOp rdNe (dOp rdIx (dVar 4) (dC (.int 0))) (dC (.str ("face" : Str))))) (dNot (dB (dCall f_is_name (dCons (dOp rdIx (dVar 4) (dC (.int 1))) dNil)))))) dNever dNext)
    (dSeq (dAsg (dLc (diSq (dSl (dVar 4) (dPt (dC (.int 2))) dNo)) (dgName 6) dYes (dCall f_number_of (dCons (dVar 6) (dCons (dVar 3) dNil))) [6]) (dgName 5))
    (dApp 1 (dTup (dCons (dOp rdIx (dVar 4) (dC (.int 1))) (dCons (dOp rdIx (dVar 5) (dC (.int 0))) (dCons (dCB rdTuple (dCons (dSl (dVar 5) (dPt (dC (.int 1))) dNo) dNil)) dNil))))))))
def red1 : DTS := (dFor (diRg1 (dCons (dCB rdLen (dCons (dVar 2) dNil)) dNil)) (dgName 3) red2)
theorem read_eq : b_read = (dSeq (dAsgO 1 (dLst dNil))
    (dSeq (dAsg (dIf (dB (dOp rdNe (dVar 0) (dC (.str ("" : Str))))) (dSplit (dVar 0) (dC (.str ("\n" : Str)))) (dLst dNil)) (dgName 2))
    (dSeq red1
    (dRet (dMake f_Case (dCons (dVar 1) dNil)))))) := rfl

theorem rd_red2 {XX : Exn → Prop} {DD : DEnds} {T : D} {k : Nat} {rows : List Str} {done : List Face} {f : Face} (hf : FaceN f) (hk : rows[k]? = some (rowT f)) (hd : done.length ≤ 100)
    (hnx : ∀ a4 a5, DD.nx [.v false T, .own true ((done ++ [f]).map eF), .v true (.lst (rows.map .str)), .v true (.int (k : Int)), a4, a5, .e]) :
    red2 XX DD [.v false T, .own true (done.map eF), .v true (.lst (rows.map .str)), .v true (.int (k : Int)), .e, .e, .e] := by
  unfold red2
  have hkl := (List.getElem?_eq_some_iff.mp hk).1
  have hat : atI (rows.map D.str) (k : Int) = some (.str (rowT f)) := by
    rw [List.getElem?_eq_getElem hkl] at hk
    rw [atI_map, atI_nat hkl, Option.some.inj hk]
    rfl
  have hr := hf.row
  have hnm := hf.nm.ok
  have hsl := hf.sg.1
  have hnum := hf.num
  simp [hat]
  refine ⟨by decide +kernel, by omega, ?_⟩
  rw [hf.split]
  have hnl : (numsT f).length = f.signs.length + 1 := by simp [numsT]
  have a0 : atI ((("face" : Str) :: f.name :: numsT f).map D.str) 0 = some (.str ("face" : Str)) := atI_nat (j := 0) (l := (("face" : Str) :: f.name :: numsT f).map D.str) (by simp)
  have a1 : atI ((("face" : Str) :: f.name :: numsT f).map D.str) 1 = some (.str f.name) := atI_nat (j := 1) (l := (("face" : Str) :: f.name :: numsT f).map D.str) (by simp)
  have hcut : cutD ((("face" : Str) :: f.name :: numsT f).map D.str) (some 2) none = (f.rank :: f.signs).map fun i => D.str (numT i) := by
    have := cutD_from (l := (("face" : Str) :: f.name :: numsT f).map D.str) (a := 2)
    rw [show (2 : Int) = ((2 : Nat) : Int) from rfl, this]
    unfold numsT
    simp
  have hwl : (("face" : Str) :: f.name :: numsT f).length = f.signs.length + 3 := by simp [numsT]
  generalize ((("face" : Str) :: f.name :: numsT f).map D.str) = W at a0 a1 hcut
  rw [hwl]
  refine ⟨by omega, _, a0, by decide +kernel, by decide +kernel, by decide +kernel, _, a1, ?_⟩
  refine ⟨_, rfl, f.name, rfl, by omega, hnm.2.1, by rw [hnm.1], ?_⟩
  refine lc_map (f.rank :: f.signs) (fun i => D.str (numT i)) (k := .fr) .fr D.int rfl (fun Qi h => ?_) (by simp; omega) rfl (by decide) (fun i hi K hk2 => ?_) ?_
  · simp
    rw [hcut, if_pos (flats_map (fun i => rfl) _)]
    exact h
  · simp [wipeR]
    have := hnum i hi
    exact ⟨_, _, rfl, i, rfl, rfl, this.1, this.2, hk2 _ kf⟩
  · have b0 : atI ((f.rank :: f.signs).map D.int) 0 = some (.int f.rank) := atI_nat (j := 0) (l := (f.rank :: f.signs).map D.int) (by simp)
    have b1 : cutD ((f.rank :: f.signs).map D.int) (some 1) none = f.signs.map D.int := by
      have := cutD_from (l := (f.rank :: f.signs).map D.int) (a := 1)
      rw [show (1 : Int) = ((1 : Nat) : Int) from rfl, this]
      simp
    generalize (f.rank :: f.signs).map D.int = L at b0 b1
    refine .inr ⟨rfl, by omega, _, a1, ?_⟩
    simp [b0, b1]
    have := hnx (.v true (.lst W)) (.v true (.lst L))
    simp [eF, tints] at this
    exact this
theorem rd_read : Rd 7 f_read b_read := by
  rintro XX ds Q ⟨_, rfl, fs, rfl, hf, hq⟩
  have h8 := hf.len
  have key : red1 XX { nx := dRet (dMake f_Case (dCons (dVar 1) dNil)) XX { nx := fun x => Q D.non, rt := Q }, rt := Q } [.v false (.str (textT fs)), .own true [], .v true (.lst ((fs.map rowT).map .str)), .e, .e, .e, .e] := by
    unfold red1
    refine for_rangeS 0 fs.length (fun done : List Face => [.v false (.str (textT fs)), .own true (done.map eF), .v true (.lst ((fs.map rowT).map .str)), .e, .e, .e, .e]) (fun k done => done = fs.take k) [] (fun Qi h => by simp; exact ⟨by omega, h⟩) rfl rfl (fun k done hk h => ?_) fun done h => ?_
    · subst h
      simp only [Int.zero_add]
      show red2 _ _ _
      refine rd_red2 (f := fs[k]) (hf.at (List.getElem_mem hk)) (by rw [List.getElem?_map, List.getElem?_eq_getElem hk]; rfl) (by rw [List.length_take]; omega) fun a4 a5 => ?_
      refine ⟨fs.take k ++ [fs[k]], by simp, ?_⟩
      rw [List.take_append_getElem]
    · rw [List.take_length] at h
      subst h
      simp
      exact call_Case hf hq
  rw [read_eq]
  have hlen := textT_len hf
  have hok := textT_ok hf
  simp [ini]
  refine ⟨hok, by decide +kernel, ?_⟩
  by_cases h0 : fs = []
  · subst h0
    exact .inl ⟨rfl, key⟩
  · refine .inr ⟨textT_ne h0, by decide +kernel, by omega, ?_⟩
    rw [rows_split hf h0]
    exact key
end HD

set_option Elab.async false
set_option linter.all false
set_option maxRecDepth 100000
set_option maxHeartbeats 1000000
/-! what the laws' readings share -/
namespace HD
open PySem PySem.Spec PyProof.Rows L2
theorem having_pw (fs : List Face) (c : List Int) : (havingL fs c).Pairwise (· < ·) := by
  unfold havingL
  exact List.pairwise_lt_range.filter _
theorem having_le (fs : List Face) (c : List Int) : (havingL fs c).length ≤ fs.length := by
  unfold havingL
  refine Nat.le_trans (List.length_filter_le _ _) (by simp)
theorem having_cand (fs : List Face) (c : List Int) : CandOk fs (havingL fs c) := fun k hk => by
  have := (List.mem_filter.mp hk).1
  simpa using this
theorem every_ok3 {fs : List Face} {t : List Int} (hf : fs.length ≤ 100) (hl : t.length ≤ 1000) : EvOk fs (everyL fs t) where
  len := by have := every_len fs t; omega
  nd := fun l h => by
    obtain ⟨c, _, rfl⟩ := List.mem_map.mp h
    rw [List.nodup_iff_pairwise_ne]
    exact (having_pw fs c).imp fun h => by omega
  lt := fun l h => by
    obtain ⟨c, _, rfl⟩ := List.mem_map.mp h
    exact having_cand fs c
  few := fun l h => by
    obtain ⟨c, _, rfl⟩ := List.mem_map.mp h
    have := having_le fs c
    omega
theorem call_best {XX : Exn → Prop} {Q : D → Prop} {fs : List Face} {ev : List (List Nat)} {w : List (Option Nat)} (hw : w.length = ev.length) (hev : EvOk fs ev) (h : Q (.tup [eC (costW fs (ev.zip w) (bestL fs ev w)), eR (bestL fs ev w)])) : f_best XX [.lst (fs.map eF), .lst (ev.map eL), .lst (w.map eO)] Q := ⟨_, _, _, rfl, fs, ev, w, rfl, rfl, rfl, hw, hev, h⟩
theorem srt_eq : ∀ {a b : List Int}, a.Pairwise (· < ·) → b.Pairwise (· < ·) → (∀ x, x ∈ a ↔ x ∈ b) → a = b
  | [], [], _, _, _ => rfl
  | [], y :: b, _, _, h => by have := (h y).mpr List.mem_cons_self; cases this
  | x :: a, [], _, _, h => by have := (h x).mp List.mem_cons_self; cases this
  | x :: a, y :: b, ha, hb, h => by
    rw [List.pairwise_cons] at ha hb
    have hxy : x = y := by
      rcases List.mem_cons.mp ((h x).mp List.mem_cons_self) with e | hx
      · exact e
      · rcases List.mem_cons.mp ((h y).mpr List.mem_cons_self) with e | hy
        · exact e.symm
        · have h1 := hb.1 x hx
          have h2 := ha.1 y hy
          omega
    subst hxy
    rw [srt_eq ha.2 hb.2 fun z => ?_]
    have hz := h z
    rw [List.mem_cons, List.mem_cons] at hz
    constructor
    · intro hza
      rcases hz.mp (.inr hza) with e | q
      · have := ha.1 z hza; omega
      · exact q
    · intro hzb
      rcases hz.mpr (.inr hzb) with e | q
      · have := hb.1 z hzb; omega
      · exact q
theorem name_strOk {s : Str} (h : NameOk s) : PyData.strOk s = true := by
  obtain ⟨l, rfl, _, _, hl⟩ := h
  unfold PyData.strOk
  simp only [Array.all_eq_true']
  intro x hx
  have hx' : x ∈ l := by simpa using hx
  have := hl x hx'
  have h2 : ∀ c ∈ letters, c < 1114112 := by decide +kernel
  simpa using h2 x (by simpa using this)
theorem alk_face {f : Face} (h : FaceN f) {n : Nat} : alkD (n + 2) (eF f) = true := by
  have h1 := h.sg.1
  have h2 := name_strOk h.nm
  simp [eF, alkD, tints, h2]
  omega
theorem alk_faces {fs : List Face} (h : FacesOk fs) {n : Nat} : alkD (n + 3) (.lst (fs.map eF)) = true := by
  have h1 := h.len
  simp [alkD]
  exact ⟨by omega, fun f hf => alk_face (h.at hf)⟩
theorem call_faces {XX : Exn → Prop} {Q : D → Prop} {fs : List Face} (h : Q (.lst (fs.map eF))) : f_faces XX [.obj (fs.map eF)] Q := ⟨_, rfl, fs, rfl, h⟩
end HD

set_option Elab.async false
set_option linter.all false
set_option maxRecDepth 100000
set_option maxHeartbeats 1000000
/-! a list of bools: how often, where first -/
namespace HD
open PySem PySem.Spec PyProof.Rows L2
section
variable {X : Cx}
def rCountD (K : PySem.W.Frag) : V → List V → Hp → VK → Prop := fun x xs H Q => ∃ (a : Addr) (y : V) (d : PyData) (ds : List PyData), x = V.ref a ∧ xs = [y] ∧ Dp K H (V.ref a) (.list ds) ∧ Dp K H y d ∧
  SeqAt.shaped (.list ds) = true ∧ SeqAt.shaped d = true ∧ Q (.int (ds.countP fun z => PyData.eqv z d : Nat)) H
theorem mt_countD (hu : X.A.units + 65 < cLine) : MtR X "list.count" (rCountD X.K) := by
  intro pins s σ H x xs v us Q I rx rxs h
  obtain ⟨a, y, d, ds, rfl, rfl, hl, hy, sl, sd, q⟩ := h
  cases rx
  cases rxs with
  | cons ry rt =>
    rename_i uy ut
    cases rt
    obtain ⟨bs, r1⟩ := Dp.reads I d y uy hy ry
    have hxs : PyData.canLayAll0 ds = true := SeqAt.canLay_of_shaped sl
    have hroom : X.A.units + 1 + min (PyData.depthAll ds) d.depth < cLine := room_in_shaped sd hu
    cases hl with
    | lst hs ha =>
      obtain ⟨its, rv, ⟨⟨cls, dd, data, sls⟩, n, ho, hc, hdn, hdt⟩, hlen⟩ := I.list hs
      simp only at hc hdt
      subst hc hdt
      obtain ⟨as, h4⟩ := Dp.readsAll I ds _ its ha rv
      have hmap : its.map (SeqAt.readOf s.heap) = ds := SeqAt.readsAll_map ds its as hxs h4
      refine call_meets PySem.F.slot_list_count ⟨_, ho, rfl⟩ PySem.F.entry_list_count (PySem.F.args_list_count_2 _ _)
        (SeqAt.list_countAt a its.toArray n dd sls uy (fun u => PyData.eqv (SeqAt.readOf s.heap u) d)) ⟨ho, SeqAt.items_eqAt (vs := its.toArray) (show ReadsAll s.heap its.toArray.toList ds as from h4) r1 hxs (SeqAt.canLay_of_shaped sd) hroom, ?_⟩
      have e : its.toArray.toList.countP (fun u => PyData.eqv (SeqAt.readOf s.heap u) d) = ds.countP fun z => PyData.eqv z d := by
        rw [← hmap, List.countP_map]; rfl
      exact ⟨.int (ds.countP fun z => PyData.eqv z d : Nat), H, I.tok _, ⟨s.toks, by rw [← e]⟩, q⟩
end
theorem un65 {k : Nat} {A : Around} (r : Room k A) : A.units + 64 + 1 < cLine := by have := r.un; omega
section
variable {G : Gp} {E : XK} {X : Cx} {da te : DTE} {o e : Expr} {apos cpos : Pos}
theorem pys_bl : ∀ bs : List Bool, D.pys (bs.map .bl) = bs.map PyData.bool
  | [] => rfl
  | b :: bs => by show D.py (.bl b) :: D.pys (bs.map .bl) = _; rw [pys_bl bs]; rfl
theorem eqv_bl (a b : Bool) : PyData.eqv (.bool a) (.bool b) = decide (a = b) := by cases a <;> cases b <;> rfl
/-- x.count(b), x a list of bools -/
def dLcount (da te : DTE) : DTE := fun XX ρ Q => da XX ρ fun _ d => ∃ bs : List Bool, d = .lst (bs.map .bl) ∧ te XX ρ fun _ y => ∃ b, y = .bl b ∧ Q .fr (.int (bs.count b : Nat))
theorem pd_lcount (hu : X.A.units + 64 + 1 < cLine) (ho : PE X o (cE G E da)) (he : PE X e (cE G E te)) (hbase : attributeBase o "count" X.env (eval o X.env) = eval o X.env := by rfl)
    (hfew : ((backTo cpos (starEach (e :: []) X.env)).all (fun x => !x.1) && (backToKw cpos (keywordEach [] X.env)).all (fun x => x.1.isSome)
      && decide ((e :: []).length + ([] : List Keyword).length + (if ([] : List Keyword).isEmpty then 0 else 1) < 30)) = true := by rfl)
    (hline : (apos.endLine == cpos.line) = true := by rfl) (hs : starEach (e :: []) X.env = (false, eval e X.env) :: starEach [] X.env := by rfl) (hplain : (backTo cpos (starEach [] X.env)).any (·.1) = false := by rfl) :
    PE X (.Call (.Attribute o "count" apos) [e] [] cpos) (cE G E (dLcount da te)) :=
  pe_weak (pe_bm PySem.F.plainAttrs_list PySem.F.slot_list_count PySem.F.type_list_count (mt_countD hu) ho (pa_cons he pa_nil hs) hbase hfew hline hs hplain) fun σ H Qv h => by
  obtain ⟨H0, r, γ, ρ, XX, Q, env, q, hx, post⟩ := h
  refine cE_at (Now.start env) q hx fun v k d H1 ⟨bs, hd, q1⟩ e1 N1 r1 => ?_
  subst hd
  have hc : (D.lst (bs.map .bl)).cmp 1 = true := by unfold D.cmp; exact cmps_map (fun _ => rfl) bs
  have hdp := rep_dp (K := X.K) 1 _ v hc r1
  obtain ⟨a, xs, rfl, _, h1, h2⟩ := rep_lst r1
  refine ⟨.inl ⟨rfl, _, SqL.of h1⟩, ?_⟩
  refine cE_at N1 q1 hx fun v2 k2 d2 H2 ⟨b, hd, q2⟩ e2 N2 r2 => ?_
  subst hd
  have r1' := N1.cxt.pers e2 r1
  have hdp' := rep_dp (K := X.K) 1 _ _ hc r1'
  have hc60 : (D.lst (bs.map .bl)).cmp 60 = true := by unfold D.cmp; exact cmps_map (fun _ => rfl) bs
  refine ⟨a, v2, .bool b, bs.map PyData.bool, rfl, rfl, by rw [← pys_bl]; exact hdp', rep_dp (K := X.K) 0 (.bl b) v2 rfl r2, by rw [← pys_bl]; exact cmp_shaped hc60, cmp_shaped (d := .bl b) rfl, ?_⟩
  have e : (bs.map PyData.bool).countP (fun z => PyData.eqv z (.bool b)) = bs.count b := by
    rw [List.countP_map]
    unfold List.count
    apply List.countP_congr
    intro z _
    show PyData.eqv (.bool z) (.bool b) = true ↔ (z == b) = true
    rw [eqv_bl]; cases z <;> cases b <;> simp
  rw [e]
  exact post _ .fr _ _ q2 N2.ex N2.row rep_int
/-- x.index(b), x a list of bools -/
def dLindexB (da te : DTE) : DTE := fun XX ρ Q => da XX ρ fun _ d => ∃ bs : List Bool, d = .lst (bs.map .bl) ∧ te XX ρ fun _ y => ∃ b j, y = .bl b ∧ bs[j]? = some b ∧ (∀ m, m < j → bs[m]? ≠ some b) ∧ Q .fr (.int (j : Nat))
theorem pd_lindexB (hu : X.A.units + 64 + 1 < cLine) (ho : PE X o (cE G E da)) (he : PE X e (cE G E te)) (hbase : attributeBase o "index" X.env (eval o X.env) = eval o X.env := by rfl)
    (hfew : ((backTo cpos (starEach (e :: []) X.env)).all (fun x => !x.1) && (backToKw cpos (keywordEach [] X.env)).all (fun x => x.1.isSome)
      && decide ((e :: []).length + ([] : List Keyword).length + (if ([] : List Keyword).isEmpty then 0 else 1) < 30)) = true := by rfl)
    (hline : (apos.endLine == cpos.line) = true := by rfl) (hs : starEach (e :: []) X.env = (false, eval e X.env) :: starEach [] X.env := by rfl) (hplain : (backTo cpos (starEach [] X.env)).any (·.1) = false := by rfl) :
    PE X (.Call (.Attribute o "index" apos) [e] [] cpos) (cE G E (dLindexB da te)) :=
  pe_weak (pe_bm PySem.F.plainAttrs_list PySem.F.slot_list_index PySem.F.type_list_index (mt_indexD hu) ho (pa_cons he pa_nil hs) hbase hfew hline hs hplain) fun σ H Qv h => by
  obtain ⟨H0, r, γ, ρ, XX, Q, env, q, hx, post⟩ := h
  refine cE_at (Now.start env) q hx fun v k d H1 ⟨bs, hd, q1⟩ e1 N1 r1 => ?_
  subst hd
  have hc : (D.lst (bs.map .bl)).cmp 1 = true := by unfold D.cmp; exact cmps_map (fun _ => rfl) bs
  obtain ⟨a, xs, rfl, _, h1, h2⟩ := rep_lst r1
  refine ⟨.inl ⟨rfl, _, SqL.of h1⟩, ?_⟩
  refine cE_at N1 q1 hx fun v2 k2 d2 H2 ⟨b, j, hd, hj, hno, q2⟩ e2 N2 r2 => ?_
  subst hd
  have r1' := N1.cxt.pers e2 r1
  have hdp' := rep_dp (K := X.K) 1 _ _ hc r1'
  have hc60 : (D.lst (bs.map .bl)).cmp 60 = true := by unfold D.cmp; exact cmps_map (fun _ => rfl) bs
  refine ⟨a, v2, .bool b, bs.map PyData.bool, j, .bool b, rfl, rfl, by rw [← pys_bl]; exact hdp', rep_dp (K := X.K) 0 (.bl b) v2 rfl r2, by rw [← pys_bl]; exact cmp_shaped hc60, cmp_shaped (d := .bl b) rfl, by rw [List.getElem?_map, hj]; rfl, by rw [eqv_bl]; simp, fun m z' hm hz => ?_, post _ .fr _ _ q2 N2.ex N2.row rep_int⟩
  rw [List.getElem?_map] at hz
  obtain ⟨w, hw, rfl⟩ := Option.map_eq_some_iff.mp hz
  rw [eqv_bl, decide_eq_false fun z => hno m hm (by rw [hw, z])]
end
@[simp] theorem s_dLcount {da te : DTE} {XX : Exn → Prop} {ρ : Rho} {Q : KQ} : dLcount da te XX ρ Q = da XX ρ fun _ d => ∃ bs : List Bool, d = .lst (bs.map .bl) ∧ te XX ρ fun _ y => ∃ b, y = .bl b ∧ Q .fr (.int (bs.count b : Nat)) := rfl
@[simp] theorem s_dLindexB {da te : DTE} {XX : Exn → Prop} {ρ : Rho} {Q : KQ} : dLindexB da te XX ρ Q = da XX ρ fun _ d => ∃ bs : List Bool, d = .lst (bs.map .bl) ∧ te XX ρ fun _ y => ∃ b j, y = .bl b ∧ bs[j]? = some b ∧ (∀ m, m < j → bs[m]? ≠ some b) ∧ Q .fr (.int (j : Nat)) := rfl
end HD

set_option Elab.async false
set_option linter.all false
set_option maxRecDepth 100000
set_option maxHeartbeats 1000000
/-! readings: what is a case, what is none -/
namespace HD
open PySem PySem.Spec PyProof.Rows L2
def signsB (l : List Int) : Bool := decide (l.length ≤ 100) && (l.all fun s => decide (0 ≤ s) && decide (s < 1000)) && decide (l.Pairwise (· < ·))
theorem signsB_ok {l : List Int} : signsB l = true ↔ SignsOk l := by
  unfold signsB SignsOk
  simp only [Bool.and_eq_true, decide_eq_true_eq, List.all_eq_true]
  constructor
  · rintro ⟨⟨h1, h2⟩, h3⟩; exact ⟨h1, h2, h3⟩
  · rintro ⟨h1, h2, h3⟩; exact ⟨⟨h1, h2⟩, h3⟩
theorem pw_of_next : ∀ {l : List Int}, (∀ i (h : i + 1 < l.length), l[i] < l[i + 1]) → l.Pairwise (· < ·)
  | [], _ => .nil
  | [a], _ => by simp
  | a :: b :: l, h => by
    have t := pw_of_next (l := b :: l) (fun i hi => by have := h (i + 1) (by simpa using hi); simpa using this)
    rw [List.pairwise_cons]
    refine ⟨fun x hx => ?_, t⟩
    have hab : a < b := by have := h 0 (by simp); simpa using this
    rcases List.mem_cons.mp hx with e | hx
    · omega
    · have := (List.pairwise_cons.mp t).1 x hx; omega
def f_are_signsG : DSp := dsp1 fun a Q => ∃ l : List Int, a = tints l ∧ l.length ≤ 100000 ∧ Q (.bl (signsB l))
-- are_signs(signs): 0 signs 1 sign 2 k
@[reducible] def b_are_signsG : DTS :=
  (dSeq (dIfS (dOr (dB (dOp rdGt (dCB rdLen (dCons (dVar 0) dNil)) (dC (.int 100)))) (dB (dOp rdNe (dLc (diSq (dVar 0)) (dgName 1) (dNot (dB (dChain rdLe rdLt (dC (.int 0)) (dVar 1) (dC (.int 1000))))) (dVar 1) [1]) (dLst dNil)))) (dRet (dC (.bl false))) dNext)
    (dRet (dOp rdEq (dLc (diRg2 (dCons (dC (.int 1)) (dCons (dCB rdLen (dCons (dVar 0) dNil)) dNil))) (dgName 2) (dB (dOp rdGe (dOp rdIx (dVar 0) (dOp rdSub (dVar 2) (dC (.int 1)))) (dOp rdIx (dVar 0) (dVar 2)))) (dVar 2) [2]) (dLst dNil))))
theorem rd_are_signsG : Rd 3 f_are_signsG b_are_signsG := by
  rintro XX ds Q ⟨_, rfl, l, rfl, hl, hq⟩
  simp [b_are_signsG, ini, tints]
  by_cases h100 : 100 < l.length
  · have e : signsB l = false := by unfold signsB; rw [decide_eq_false (by omega)]; rfl
    rw [e] at hq
    exact .inr ⟨by omega, hq⟩
  · refine .inl ⟨by omega, ?_⟩
    refine lc_fil l .int (k := .sf) .fr (fun s => !(decide (0 ≤ s) && decide (s < 1000))) .int rfl (fun Qi h => by simpa using h) (by omega) rfl (by decide) (fun s hm K K0 h1 h0 => ?_) ?_
    · simp [wipeR]
      by_cases c : 0 ≤ s
      · by_cases d : s < 1000
        · exact .inr ⟨c, .inr ⟨d, h0 (by simp [c, d])⟩⟩
        · exact .inr ⟨c, .inl ⟨by omega, h1 (by simp [d]) _ kf⟩⟩
      · exact .inl ⟨by omega, h1 (by simp [c]) _ kf⟩
    · simp
      by_cases hr : ∀ s ∈ l, 0 ≤ s ∧ s < 1000
      · refine .inl ⟨fun s hs => hr s hs, ?_⟩
        refine lc_fil (List.range (l.length - 1)) (fun i => D.int (1 + ((i : Nat) : Int))) (k := .fr) .fr (fun i => decide (l.getD (i + 1) 0 ≤ l.getD i 0)) (fun i => D.int (1 + ((i : Nat) : Int))) rfl (fun Qi h => ?_) (by simp; omega) rfl (by decide) (fun i hi K K0 h1 h0 => ?_) ?_
        · rw [← rgD_map] at h
          have e : ((l.length : Int) - 1).toNat = l.length - 1 := by omega
          simp [e]
          exact ⟨by omega, h⟩
        · have hi' : i < l.length - 1 := by simpa using hi
          have h1' : i < l.length := by omega
          have h2' : i + 1 < l.length := by omega
          have e1 : (1 : Int) + (i : Int) - 1 = (i : Int) := by omega
          have e2 : (1 : Int) + (i : Int) = (i : Int) + 1 := by omega
          rw [getD_at h1', getD_at h2'] at h0 h1
          simp [wipeR, e1, e2, atI_map, atI_nat h1', atI_s h2']
          by_cases c : l[i] < l[i + 1]
          · exact .inl ⟨c, h0 (by simp; omega)⟩
          · refine .inr ⟨by omega, ?_⟩
            have := h1 (by simp; omega) .nw kf
            rw [e2] at this
            exact this
        · simp
          have e : signsB l = decide (∀ i, i < l.length - 1 → l[i]?.getD 0 < l[i + 1]?.getD 0) := by
            rw [Bool.eq_iff_iff, signsB_ok, decide_eq_true_eq]
            constructor
            · rintro ⟨_, _, h⟩ i hi
              have := List.pairwise_iff_getElem.mp h i (i + 1) (by omega) (by omega) (by omega)
              simpa [show i < l.length by omega, show i + 1 < l.length by omega] using this
            · intro h
              refine ⟨by omega, fun s hs => hr s hs, pw_of_next fun i hi => ?_⟩
              have := h i (by omega)
              simpa [show i < l.length by omega, show i + 1 < l.length by omega] using this
          rw [e] at hq
          exact ⟨cmps_map (fun _ => rfl) _, hq⟩
      · refine .inr ⟨?_, ?_⟩
        · obtain ⟨s, hs⟩ := Classical.not_forall.mp hr
          obtain ⟨hs, h⟩ := Classical.not_imp.mp hs
          exact ⟨s, hs, fun h0 => by omega⟩
        · have e : signsB l = false := by
            cases hb : signsB l with
            | false => rfl
            | true => exact absurd (fun s hs => (signsB_ok.mp hb).2.1 s hs) hr
          rw [e] at hq
          exact hq
structure FaceG (n : Nat) (f : Face) : Prop where
  nl : f.name.length ≤ 10000
  ns : PyData.strOk f.name = true
  sl : f.signs.length ≤ n
structure FacesG (n : Nat) (fs : List Face) : Prop where
  len : fs.length ≤ 60000
  at_ : ∀ f ∈ fs, FaceG n f
def badAt (fs : List Face) (i : Nat) : Bool := (fs[i]?).any fun f => !(nameOk f.name && !((fs.take i).map (·.name)).contains f.name && (decide (0 ≤ f.rank) && decide (f.rank ≤ 9)) && signsB f.signs)
def wrongL (fs : List Face) : Option (Str × Int) := if 8 < fs.length then some (("faces" : Str), 0) else ((List.range fs.length).find? (badAt fs)).map fun i => (("face" : Str), (i : Int))
theorem wrong_many {fs : List Face} (h : 8 < fs.length) : wrongL fs = some (("faces" : Str), 0) := by unfold wrongL; rw [if_pos h]
theorem wrong_none {fs : List Face} (h : fs.length ≤ 8) (hb : ∀ j, j < fs.length → badAt fs j = false) : wrongL fs = none := by
  unfold wrongL
  rw [if_neg (by omega), List.find?_eq_none.mpr fun j hj => by rw [hb j (by simpa using hj)]; exact Bool.false_ne_true]
  rfl
theorem wrong_at {fs : List Face} {i : Nat} (h : fs.length ≤ 8) (hi : i < fs.length) (hb : ∀ j, j < i → badAt fs j = false) (hbi : badAt fs i = true) : wrongL fs = some (("face" : Str), (i : Int)) := by
  unfold wrongL
  rw [if_neg (by omega)]
  have : (List.range fs.length).find? (badAt fs) = some i := by
    rw [List.find?_range_eq_some]
    exact ⟨hbi, by simpa using hi, fun j hj => by rw [hb j hj]; rfl⟩
  rw [this]
  rfl
def wOf : Option (Str × Int) → D
  | none => .non
  | some (w, n) => .tup [.str w, .int n]
def f_Case2 : DSp := fun XX ds Q => ∃ (fs : List Face), ds = [.lst (fs.map eF)] ∧ FacesG 60000 fs ∧ (wrongL fs = none → Q (.obj (fs.map eF))) ∧ ∀ w n, wrongL fs = some (w, n) → XX (.case w n)
theorem f_Case2_len : ∀ XX ds Q, f_Case2 XX ds Q → ∃ d, ds = [d] := fun _ _ _ ⟨_, h, _⟩ => ⟨_, h⟩
def f_wrong : DSp := dsp1 fun a Q => ∃ (fs : List Face), a = .lst (fs.map eF) ∧ FacesG 60000 fs ∧ Q (wOf (wrongL fs))
/-- the names told ahead -/
theorem names_lc {XX : Exn → Prop} {ρ : Rho} {Q : KQ} {fs : List Face} {i j : Nat} {it : DTI} (hi : i < fs.length) (hfs : FacesG 60000 fs) (hno : noOwn ρ [j] = true) (hj : j < ρ.length) (hit : ∀ Qi : Kd → List D → Prop, Qi .fr ((fs.take i).map eF) → it XX ρ Qi)
    (h : Q .fr (.lst (((fs.take i).map (·.name)).map D.str))) : dLc it (dgName j) dYes (dOp rdIx (dVar j) (dC (.int 0))) [j] XX ρ Q := by
  have hl := hfs.len
  refine lc_map (fs.take i) eF (k := .fr) .fr (fun f => D.str f.name) rfl hit (by simp; omega) hno (by decide) (fun f hm K hk => ?_) ?_
  · show dOp _ _ _ _ _ _
    have hw : (wipeR ρ [j]).length = ρ.length := by simp [wipeR]
    refine ⟨.v true (eF f), List.getElem?_set_self (by rw [hw]; exact hj), ?_⟩
    simp [eF]
    exact hk _ kf
  · rw [List.map_map] at h
    exact h
-- Case.__init__(self, faces): 0 self 1 faces 2 number 3 name 4 rank 5 signs 6 good 7 face
@[reducible] def b_Case_init21 : DTS :=
  (dIfS (dB (dOp rdGt (dCB rdLen (dCons (dVar 1) dNil)) (dC (.int 8)))) (dRaise rdCase (dCons (dC (.str ("faces" : Str))) (dCons (dC (.int 0)) dNil))) dNext)
@[reducible] def b_Case_init22 : DTS :=
  (dFor (diRg1 (dCons (dCB rdLen (dCons (dVar 1) dNil)) dNil)) (dgName 2) (dSeq (dAsg (dOp rdIx (dVar 1) (dVar 2)) (dgTup 3 (dgCons (dgName 3) (dgCons (dgName 4) (dgCons (dgName 5) dgNil)))))
    (dSeq (dAsg (dAndV (dCall f_is_name (dCons (dVar 3) dNil)) (dOp (rdIn true) (dVar 3) (dLc (diSq (dSl (dVar 1) dNo (dPt (dVar 2)))) (dgName 7) dYes (dOp rdIx (dVar 7) (dC (.int 0))) [7]))) (dgName 6))
    (dIfS (dOr (dNot (dB (dVar 6))) (dOr (dNot (dB (dChain rdLe rdLe (dC (.int 0)) (dVar 4) (dC (.int 9))))) (dNot (dB (dCall f_are_signsG (dCons (dVar 5) dNil)))))) (dRaise rdCase (dCons (dC (.str ("face" : Str))) (dCons (dVar 2) dNil))) dNext))))
@[reducible] def b_Case_init23 : DTE :=
  (dCB rdList (dCons (dVar 1) dNil))
theorem rd_Case2 : ∀ XX ds Q, f_Case2 XX ds Q → dInit 8 b_Case_init21 b_Case_init22 b_Case_init23 XX ds Q := by
  rintro XX ds Q ⟨fs, rfl, hfs, hq, hx⟩
  refine ⟨_, rfl, fun x => ?_⟩
  have hl := hfs.len
  simp [b_Case_init21, b_Case_init22, b_Case_init23]
  by_cases h8 : 8 < fs.length
  · exact .inr ⟨by omega, hx _ _ (wrong_many h8)⟩
  refine .inl ⟨by omega, ?_⟩
  refine for_rangeS 0 fs.length (fun _ : Unit => [.is (.ref x), .v false (.lst (fs.map eF)), .e, .e, .e, .e, .e, .e]) (fun i _ => ∀ j, j < i → badAt fs j = false) () (fun Q h => by simp; exact ⟨by omega, h⟩) rfl (fun j hj => by omega) (fun i _ hi hb => ?_) fun _ hb => ?_
  · have hm : fs[i] ∈ fs := List.getElem_mem hi
    have hg := hfs.at_ _ hm
    have hbe : badAt fs i = !(nameOk fs[i].name && !((fs.take i).map (·.name)).contains fs[i].name && (decide (0 ≤ fs[i].rank) && decide (fs[i].rank ≤ 9)) && signsB fs[i].signs) := by
      unfold badAt; rw [List.getElem?_eq_getElem hi]; rfl
    have hbad : badAt fs i = true → XX (.case ("face" : Str) (i : Int)) := fun h => hx _ _ (wrong_at (by omega) hi hb h)
    have hgood : badAt fs i = false → ∀ j, j < i + 1 → badAt fs j = false := fun h j hj => by
      by_cases e : j = i
      · rw [e]; exact h
      · exact hb j (by omega)
    rw [hbe] at hbad hgood
    clear hbe
    simp [atI_map, atI_nat hi, eF, f_is_name, hg.ns]
    refine ⟨by have := hg.nl; omega, ?_⟩
    have hsl := hg.sl
    cases hA : nameOk fs[i].name with
    | false => exact .inl ⟨rfl, hbad (by rw [hA]; rfl)⟩
    | true =>
    refine .inr ⟨rfl, ?_⟩
    rw [hA] at hbad hgood
    refine names_lc hi hfs rfl (by simp) (fun Qi h => by
      simp [cutD_map, cutD_to]
      rw [← List.map_take]
      simp only [fsF, if_true]
      exact h) ?_
    cases hB : ((fs.take i).map (·.name)).contains fs[i].name with
    | true =>
      rw [hB] at hbad
      simp only [s_inL, sc_str, inStr, hB]
      simp
      refine ⟨?_, hbad rfl⟩
      intro y hy
      rw [← List.map_take] at hy
      obtain ⟨f, _, rfl⟩ := List.mem_map.mp hy
      rfl
    | false =>
      rw [hB] at hbad hgood
      simp only [s_inL, sc_str, inStr, hB]
      simp
      refine ⟨?_, ?_⟩
      · intro y hy
        rw [← List.map_take] at hy
        obtain ⟨f, _, rfl⟩ := List.mem_map.mp hy
        rfl
      by_cases h0 : 0 ≤ fs[i].rank
      · by_cases h9 : fs[i].rank ≤ 9
        · refine .inr ⟨h0, .inr ⟨h9, ⟨_, rfl, _, rfl, by omega, ?_⟩⟩⟩
          cases hS : signsB fs[i].signs with
          | true =>
            rw [hS] at hgood
            exact .inr ⟨rfl, hgood (by simp [h0, h9])⟩
          | false =>
            rw [hS] at hbad
            exact .inl ⟨rfl, hbad (by simp)⟩
        · exact .inr ⟨h0, .inl ⟨by omega, hbad (by simp [h9])⟩⟩
      · exact .inl ⟨by omega, hbad (by simp [h0])⟩
  · simp
    exact hq (wrong_none (by omega) hb)
-- _law_wrong(_law_faces_here): 0 _law_faces_here 1 _law_number_here 2 _law_name 3 _law_rank 4 _law_signs 5 _law_letters 6 _law_good 7 _law_sign 8 _law_face
@[reducible] def b_wrong : DTS :=
  (dSeq (dIfS (dB (dOp rdGt (dCB rdLen (dCons (dVar 0) dNil)) (dC (.int 8)))) (dRet (dTup (dCons (dC (.str ("faces" : Str))) (dCons (dC (.int 0)) dNil)))) dNext)
    (dSeq (dFor (diRg1 (dCons (dCB rdLen (dCons (dVar 0) dNil)) dNil)) (dgName 1) (dSeq (dAsg (dOp rdIx (dVar 0) (dVar 1)) (dgTup 3 (dgCons (dgName 2) (dgCons (dgName 3) (dgCons (dgName 4) dgNil)))))
    (dSeq (dAsg (dLc (diSq (dVar 2)) (dgName 7) (dB (dOp (rdIn false) (dVar 7) (dC (.str ("abcdefghijklmnopqrstuvwxyz" : Str))))) (dVar 7) [7]) (dgName 5))
    (dSeq (dAsg (dAndV (dOp rdEq (dCB rdLen (dCons (dVar 5) dNil)) (dCB rdLen (dCons (dVar 2) dNil))) (dAndV (dChain rdLt rdLt (dC (.int 0)) (dCB rdLen (dCons (dVar 2) dNil)) (dC (.int 9))) (dOp (rdIn true) (dVar 2) (dLc (diSq (dSl (dVar 0) dNo (dPt (dVar 1)))) (dgName 8) dYes (dOp rdIx (dVar 8) (dC (.int 0))) [8])))) (dgName 6))
    (dSeq (dAsg (dAndV (dVar 6) (dAndV (dChain rdLe rdLe (dC (.int 0)) (dVar 3) (dC (.int 9))) (dAndV (dOp rdLt (dCB rdLen (dCons (dVar 4) dNil)) (dC (.int 101))) (dOp rdEq (dCB rdList (dCons (dVar 4) dNil)) (dSortSetT (dVar 4)))))) (dgName 6))
    (dIfS (dOr (dNot (dB (dVar 6))) (dOr (dB (dOp rdLt (dCB rdMinT (dCons (dOp rdAdd (dTup (dCons (dC (.int 0)) dNil)) (dVar 4)) dNil)) (dC (.int 0)))) (dB (dOp rdGt (dCB rdMaxT (dCons (dOp rdAdd (dTup (dCons (dC (.int 0)) dNil)) (dVar 4)) dNil)) (dC (.int 999)))))) (dRet (dTup (dCons (dC (.str ("face" : Str))) (dCons (dVar 1) dNil)))) dNext))))))
    (dRet (dC .non))))
theorem rd_wrong : Rd 9 f_wrong b_wrong := by
  rintro XX ds Q ⟨_, rfl, fs, rfl, hfs, hq⟩
  have hl := hfs.len
  simp [b_wrong, ini]
  by_cases h8 : 8 < fs.length
  · rw [wrong_many h8] at hq
    exact .inr ⟨by omega, hq⟩
  refine .inl ⟨by omega, ?_⟩
  refine for_rangeS 0 fs.length (fun _ : Unit => [.v false (.lst (fs.map eF)), .e, .e, .e, .e, .e, .e, .e, .e]) (fun i _ => ∀ j, j < i → badAt fs j = false) () (fun Q h => by simp; exact ⟨by omega, h⟩) rfl (fun j hj => by omega) (fun i _ hi hb => ?_) fun _ hb => ?_
  · have hm : fs[i] ∈ fs := List.getElem_mem hi
    have hg := hfs.at_ _ hm
    have hbe : badAt fs i = !(nameOk fs[i].name && !((fs.take i).map (·.name)).contains fs[i].name && (decide (0 ≤ fs[i].rank) && decide (fs[i].rank ≤ 9)) && signsB fs[i].signs) := by
      unfold badAt; rw [List.getElem?_eq_getElem hi]; rfl
    have hbad : badAt fs i = true → Q (.tup [.str ("face" : Str), .int (i : Int)]) := fun h => by rw [wrong_at (by omega) hi hb h] at hq; exact hq
    have hgood : badAt fs i = false → ∀ j, j < i + 1 → badAt fs j = false := fun h j hj => by
      by_cases e : j = i
      · rw [e]; exact h
      · exact hb j (by omega)
    rw [hbe] at hbad hgood
    clear hbe
    simp [atI_map, atI_nat hi, eF]
    generalize hn : fs[i].name = nm at hbad hgood
    have hnl := hg.nl
    have hns := hg.ns
    have hsl := hg.sl
    rw [hn] at hnl hns
    have hlen : nm.cps.toList.length = nm.length := by simp [Str.length]
    refine lc_fil nm.cps.toList sgD (k := .nw) .fr (fun c => letters.contains c) sgD rfl (fun Qi h => by simpa using h) (by omega) rfl (by decide) (fun c hc K K0 h1 h0 => ?_) ?_
    · simp [wipeR, sgD]
      by_cases hcl : c ∈ ("abcdefghijklmnopqrstuvwxyz" : Str).cps
      · exact .inr ⟨hcl, h1 (by simp [letters, hcl]) _ kf⟩
      · exact .inl ⟨hcl, h0 (by simp [letters, hcl])⟩
    · simp
      refine ⟨by omega, ?_⟩
      have hfl : (nm.cps.toList.filter fun c => decide (c ∈ letters)).length = nm.length ↔ ∀ c ∈ nm.cps.toList, c ∈ letters := by
        rw [← hlen, List.length_filter_eq_length_iff]
        simp
      have hnk : nameOk nm = true ↔ (1 ≤ nm.length ∧ nm.length ≤ 8) ∧ ∀ c ∈ nm.cps.toList, c ∈ letters := by
        unfold nameOk
        simp only [Bool.and_eq_true, decide_eq_true_eq, List.all_eq_true, List.contains_iff_mem]
      rw [← hfl] at hnk
      have X : nameOk nm = false → Q (.tup [.str ("face" : Str), .int (i : Int)]) := fun h => hbad (by rw [h]; rfl)
      have X' : ¬ ((1 ≤ nm.length ∧ nm.length ≤ 8) ∧ (nm.cps.toList.filter fun c => decide (c ∈ letters)).length = nm.length) → Q (.tup [.str ("face" : Str), .int (i : Int)]) := fun h => X (by
        cases e : nameOk nm with
        | false => rfl
        | true => exact absurd (hnk.mp e) h)
      by_cases c1 : (nm.cps.toList.filter fun c => decide (c ∈ letters)).length = nm.length
      · refine .inr ⟨by omega, by omega, ?_⟩
        by_cases c2 : nm.length = 0
        · exact .inl ⟨c2, X' (fun z => by omega)⟩
        · refine .inr ⟨by omega, ?_⟩
          by_cases c3 : 9 ≤ nm.length
          · exact .inl ⟨by omega, X' (fun z => by omega)⟩
          · refine .inr ⟨by omega, ?_⟩
            have hA : nameOk nm = true := hnk.mpr ⟨⟨by omega, by omega⟩, c1⟩
            clear X X' hfl hnk
            rw [hA] at hbad hgood
            refine names_lc hi hfs rfl (by simp) (fun Qi h => by
              simp [cutD_map, cutD_to]
              rw [← List.map_take]
              simp only [fsF, if_true]
              exact h) ?_
            have hscl : ∀ y ∈ ((fs.take i).map (·.name)).map D.str, y.scl = true := by
              intro y hy
              obtain ⟨f, _, rfl⟩ := List.mem_map.mp hy
              rfl
            generalize hsg : fs[i].signs = sg at hsl hbad hgood
            cases hB : ((fs.take i).map (·.name)).contains nm with
            | true =>
              rw [hB] at hbad
              simp only [s_inL, sc_str, inStr, hB]
              exact ⟨trivial, List.all_eq_true.mpr hscl, .inr ⟨rfl, .inl ⟨rfl, hbad rfl⟩⟩⟩
            | false =>
            rw [hB] at hbad hgood
            simp only [s_inL, sc_str, inStr, hB]
            refine ⟨trivial, List.all_eq_true.mpr hscl, .inr ⟨rfl, .inr ⟨rfl, ?_⟩⟩⟩
            by_cases h0 : 0 ≤ fs[i].rank
            · refine .inr ⟨h0, ?_⟩
              by_cases h9 : fs[i].rank ≤ 9
              · refine .inr ⟨h9, ?_⟩
                have Y : ¬ SignsOk sg → Q (.tup [.str ("face" : Str), .int (i : Int)]) := fun h => hbad (by
                  cases e : signsB sg with
                  | false => simp
                  | true => exact absurd (signsB_ok.mp e) h)
                simp [tints]
                by_cases h101 : sg.length < 101
                · refine .inr ⟨by omega, by omega, fun ns' hp hm => ?_⟩
                  by_cases e : sg = ns'
                  · refine .inr ⟨e, by omega, 0 :: sg, rfl, by simp, fun m hm1 hm2 => ?_⟩
                    by_cases hm0 : 0 ≤ m
                    · refine .inl ⟨hm0, by omega, 0 :: sg, rfl, by simp, fun M hM1 hM2 => ?_⟩
                      by_cases hM : M ≤ 999
                      · refine .inl ⟨hM, hgood ?_⟩
                        have : signsB sg = true := signsB_ok.mpr ⟨by omega, fun s hs => ⟨?_, ?_⟩, by rw [e]; exact hp⟩
                        · simp [h0, h9, this]
                        · have := hm2 s (List.mem_cons_of_mem _ hs); omega
                        · have := hM2 s (List.mem_cons_of_mem _ hs); omega
                      · refine .inr ⟨by omega, Y fun z => ?_⟩
                        rcases List.mem_cons.mp hM1 with h | h
                        · omega
                        · have := z.2.1 M h; omega
                    · refine .inr ⟨by omega, Y fun z => ?_⟩
                      rcases List.mem_cons.mp hm1 with h | h
                      · omega
                      · have := z.2.1 m h; omega
                  · exact .inl ⟨e, Y fun z => e (srt_eq z.2.2 hp fun x => (hm x).symm)⟩
                · exact .inl ⟨by omega, Y fun z => by have := z.1; omega⟩
              · exact .inl ⟨by omega, hbad (by simp [h9])⟩
            · exact .inl ⟨by omega, hbad (by simp [h0])⟩
      · exact .inl ⟨by omega, X' (fun z => c1 z.2)⟩
  · rw [wrong_none (by omega) hb] at hq
    simp
    exact hq
end HD

set_option Elab.async false
set_option linter.all false
set_option maxRecDepth 100000
set_option maxHeartbeats 400000
/-! texts cut at a sign; numbers' texts; rows of a text -/
namespace HD
open PySem PySem.Spec PyProof.Rows L2
theorem spl_props (s : Nat) : ∀ (l acc : List Nat), TL.spl [s] 0 acc l ≠ [] ∧ ((TL.spl [s] 0 acc l).map (·.length)).sum + (TL.spl [s] 0 acc l).length = acc.length + l.length + 1 ∧ ∀ w ∈ TL.spl [s] 0 acc l, ∀ c ∈ w, c ∈ acc ∨ c ∈ l
  | [], acc => by rw [TL.spl_nil]; simp
  | c :: l, acc => by
    by_cases h : TL.pre [s] (c :: l) = true
    · rw [TL.spl_hit h]
      obtain ⟨h1, h2, h3⟩ := spl_props s l []
      have e : ([s] : List Nat).length - 1 = 0 := rfl
      rw [e]
      refine ⟨by simp, by simp at h2 ⊢; omega, fun w hw x hx => ?_⟩
      rcases List.mem_cons.mp hw with q | q
      · exact .inl (by rw [← q]; exact hx)
      · rcases h3 w q x hx with z | z
        · cases z
        · exact .inr (List.mem_cons_of_mem _ z)
    · rw [TL.spl_miss (by simpa using h)]
      obtain ⟨h1, h2, h3⟩ := spl_props s l (acc ++ [c])
      refine ⟨h1, by simp at h2 ⊢; omega, fun w hw x hx => ?_⟩
      rcases h3 w hw x hx with z | z
      · rcases List.mem_append.mp z with z | z
        · exact .inl z
        · rw [List.mem_singleton.mp z]; exact .inr List.mem_cons_self
      · exact .inr (List.mem_cons_of_mem _ z)
theorem strOk_iff {s : Str} : PyData.strOk s = true ↔ ∀ c ∈ TL.tl s, c < 1114112 := by
  unfold PyData.strOk
  rw [← Array.all_toList, List.all_eq_true]
  exact ⟨fun h c hc => by simpa using h c hc, fun h c hc => by simpa using h c hc⟩
structure SplOk (x : Str) (ws : List Str) : Prop where
  ne : ws ≠ []
  sm : (ws.map (·.length)).sum + ws.length = x.length + 1
  ok : PyData.strOk x = true → ∀ w ∈ ws, PyData.strOk w = true
theorem split_ok {x y : Str} {s : Nat} (hy : TL.tl y = [s]) (hk : y.cps.all (· < 256) = true) : SplOk x (Txt.split x y) := by
  have e := TL.split_spl x y (by rw [hy]; simp) (TL.kind_ok hk)
  rw [hy] at e
  obtain ⟨h1, h2, h3⟩ := spl_props s (TL.tl x) []
  rw [← e] at h1 h2 h3
  refine ⟨fun z => h1 (by rw [z]; rfl), ?_, fun hx w hw => strOk_iff.mpr fun c hc => ?_⟩
  · rw [List.map_map, List.length_map] at h2
    have e2 : (Txt.split x y).map ((·.length) ∘ TL.tl) = (Txt.split x y).map (·.length) := List.map_congr_left fun z _ => (TL.len_tl z).symm
    rw [e2] at h2
    rw [TL.len_tl x]
    simpa using h2
  · rcases h3 _ (List.mem_map.mpr ⟨w, hw, rfl⟩) c hc with z | z
    · cases z
    · exact strOk_iff.mp hx c z
theorem sum_mem {ws : List Str} {w : Str} (h : w ∈ ws) : w.length ≤ (ws.map (·.length)).sum := by
  induction ws with
  | nil => cases h
  | cons a ws ih =>
    simp only [List.map_cons, List.sum_cons]
    rcases List.mem_cons.mp h with e | h
    · rw [e]; omega
    · have := ih h; omega
theorem SplOk.len {x : Str} {ws : List Str} (h : SplOk x ws) : ws.length ≤ x.length + 1 := by have := h.sm; omega
theorem SplOk.wl {x : Str} {ws : List Str} (h : SplOk x ws) {w : Str} (hw : w ∈ ws) : w.length ≤ x.length := by
  have h1 := h.sm
  have h2 := sum_mem hw
  have h3 := List.length_pos_iff.mpr h.ne
  omega
theorem nl_ok : TL.tl ("\n" : Str) = [10] ∧ ("\n" : Str).cps.all (· < 256) = true := by decide +kernel
theorem bl_ok : TL.tl (" " : Str) = [32] ∧ (" " : Str).cps.all (· < 256) = true := by decide +kernel
theorem split_nl (x : Str) : SplOk x (Txt.split x ("\n" : Str)) := split_ok nl_ok.1 nl_ok.2
theorem split_bl (x : Str) : SplOk x (Txt.split x (" " : Str)) := split_ok bl_ok.1 bl_ok.2
theorem join_ok {y : Str} {ws : List Str} (hy : PyData.strOk y = true) (hw : ∀ w ∈ ws, PyData.strOk w = true) : PyData.strOk (Txt.join y ws) = true := strOk_iff.mpr fun c hc => by
  rw [TL.join_eq, TL.tl_join] at hc
  rcases mem_joinL hc with hc | ⟨w, h, hc⟩
  · exact strOk_iff.mp hy c hc
  · obtain ⟨x, hx, rfl⟩ := List.mem_map.mp h
    exact strOk_iff.mp (hw x hx) c hc
/-! numbers -/
def digitsL : List Nat := ("0123456789" : Str).cps.toList
def numC (w : Str) : Bool := decide (1 ≤ w.length) && decide (w.length ≤ 3) && (w.cps.toList.all fun c => digitsL.contains c) && !(decide (w.cps.toList.head? = some 48) && decide (1 < w.length))
def numW (w : Str) : Option Int := if numC w = true then PySem.intText? w else none
def numV (w : Str) : Int := (numW w).getD 0
theorem numC_some {w : Str} (h : numC w = true) : ∃ n : Int, PySem.intText? w = some n := by
  unfold numC at h
  simp only [Bool.and_eq_true, decide_eq_true_eq, List.all_eq_true] at h
  obtain ⟨⟨⟨h1, h2⟩, h3⟩, _⟩ := h
  have hd : ∀ c ∈ digitsL, 48 ≤ c ∧ c ≤ 57 := by decide +kernel
  exact ⟨_, PySem.intText_digits (fun c hc => by have := hd c (by simpa using h3 c hc); omega) (fun z => by rw [TL.len_tl, show TL.tl w = [] from z] at h1; simp at h1) (by omega)⟩
theorem numW_none {w : Str} : numW w = none ↔ numC w = false := by
  unfold numW
  constructor
  · intro h
    cases e : numC w with
    | false => rfl
    | true =>
      obtain ⟨n, hn⟩ := numC_some e
      rw [if_pos e, hn] at h; cases h
  · intro h
    rw [h, if_neg Bool.false_ne_true]
/-! rows -/
def rowOk (ws : List Str) : Bool := decide (3 ≤ ws.length) && decide (ws.head? = some ("face" : Str)) && nameOk (ws.getD 1 ("" : Str)) && ((ws.drop 2).all fun w => (numW w).isSome)
def rowFc (ws : List Str) : Face := ⟨ws.getD 1 ("" : Str), ((ws.drop 2).map numV).headD 0, ((ws.drop 2).map numV).tail⟩
def rowsL (t : Str) : List Str := if t = ("" : Str) then [] else Txt.split t ("\n" : Str)
def wordsL (r : Str) : List Str := Txt.split r (" " : Str)
def badRow (rows : List Str) (k : Nat) : Bool := (rows[k]?).any fun r => !rowOk (wordsL r)
inductive Res where
  | text (k : Nat) | case (w : Str) (n : Int) | ok (fs : List Face)
def resL (rows : List Str) : Res := match (List.range rows.length).find? (badRow rows) with
  | some k => .text k
  | none => match wrongL (rows.map fun r => rowFc (wordsL r)) with
    | some (w, n) => .case w n
    | none => .ok (rows.map fun r => rowFc (wordsL r))
def resD : Res → D
  | .text k => .tup [.str ("text" : Str), .int (k : Int)]
  | .case w n => .tup [.str ("case" : Str), .str w, .int n]
  | .ok fs => .lst (fs.map eF)
theorem res_text {rows : List Str} {k : Nat} (hk : k < rows.length) (hb : ∀ j, j < k → badRow rows j = false) (h : badRow rows k = true) : resL rows = .text k := by
  unfold resL
  rw [List.find?_range_eq_some.mpr ⟨h, by simpa using hk, fun j hj => by rw [hb j hj]; rfl⟩]
theorem res_rest {rows : List Str} (hb : ∀ j, j < rows.length → badRow rows j = false) : resL rows = match wrongL (rows.map fun r => rowFc (wordsL r)) with
    | some (w, n) => .case w n
    | none => .ok (rows.map fun r => rowFc (wordsL r)) := by
  unfold resL
  rw [List.find?_eq_none.mpr fun j hj => by rw [hb j (by simpa using hj)]; exact Bool.false_ne_true]
theorem badRow_at {rows : List Str} {k : Nat} (hk : k < rows.length) : badRow rows k = !rowOk (wordsL rows[k]) := by
  unfold badRow
  rw [List.getElem?_eq_getElem hk]
  rfl
theorem rows_ok {t : Str} (ht : PyData.strOk t = true) : (rowsL t).length ≤ t.length + 1 ∧ ∀ r ∈ rowsL t, r.length ≤ t.length ∧ PyData.strOk r = true := by
  unfold rowsL
  split
  · exact ⟨by simp, fun r hr => by cases hr⟩
  · have h := split_nl t
    exact ⟨h.len, fun r hr => ⟨h.wl hr, h.ok ht r hr⟩⟩
theorem rowFc_ok {r : Str} {n : Nat} (hr : PyData.strOk r = true) (hl : r.length ≤ 50000) (h : rowOk (wordsL r) = true) : FaceG 60000 (rowFc (wordsL r)) := by
  have hs := split_bl r
  have hw : wordsL r = Txt.split r (" " : Str) := rfl
  unfold rowOk at h
  simp only [Bool.and_eq_true, decide_eq_true_eq] at h
  obtain ⟨⟨⟨h1, h2⟩, h3⟩, h4⟩ := h
  have hm : (wordsL r).getD 1 ("" : Str) ∈ wordsL r := by
    rw [List.getD_eq_getElem?_getD, List.getElem?_eq_getElem (by omega)]
    exact List.getElem_mem _
  refine ⟨?_, hs.ok hr _ hm, ?_⟩
  · unfold nameOk at h3
    simp only [Bool.and_eq_true, decide_eq_true_eq] at h3
    show ((wordsL r).getD 1 ("" : Str)).length ≤ 10000
    omega
  · have := hs.len
    show (((wordsL r).drop 2).map numV).tail.length ≤ 60000
    simp
    rw [hw]
    omega
end HD

set_option Elab.async false
set_option linter.all false
set_option maxRecDepth 100000
set_option maxHeartbeats 1000000
/-! an exception that leaves a list comprehension -/
namespace HD
open PySem PySem.Spec PyProof.Rows L2
section
variable {X : Cx} {pins : List (Addr × Obj)} {σ : L2.St} {H3 : Hp} {s3 s' : Shared} {scope : Scope} {ce : Env} {fp : List Addr} {E : XK} {u : Value}
/-- what flies in the block of a comprehension: it came out of a call -/
def XI (X : Cx) (s3 : Shared) (H3 : Hp) (scope : Scope) (ce : Env) (fp : List Addr) (E : XK) (u : Value) (s' : Shared) : Prop :=
  ∃ (pins : List (Addr × Obj)) (σ : L2.St) (H1 : Hp) (s1 : Shared), Inv (X.blk s3 H3 scope ce fp) pins σ H1 s1 ∧ L2.CX X.prog X.w X.stack H1 s1 E u s'
theorem note_same {e : Value} {env env' : Env} (h : env.frame = env'.frame) : noteFrame e env = noteFrame e env' := by
  unfold noteFrame PySem.frameOf
  rw [h]
theorem frames_but {h1 h2 B B2 : Heap} {C : Addr} (sb : Heap.SameBut C h1 h2) (hB : ∀ b, B.get? b = none → B2.get? b = none) : ∀ {l : List Env}, h1.FunFrames B l → (∀ b ∈ frs l, b ≠ C) → h2.FunFrames B2 l
  | [], _, _ => trivial
  | env :: l, h, hn => by
    obtain ⟨hk, ⟨L, o, hf, hb, ho, hd⟩, hr⟩ := h
    refine ⟨hk, ⟨L, o, hf, hB L hb, (sb.2 L (hn L (List.mem_filterMap.mpr ⟨env, List.mem_cons_self, hf⟩))).trans ho, hd⟩, frames_but sb hB hr fun b hb => ?_⟩
    obtain ⟨e, he, q⟩ := List.mem_filterMap.mp hb
    exact hn b (List.mem_filterMap.mpr ⟨e, List.mem_cons_of_mem _ he, q⟩)
/-- what is asked behind the block, its env told -/
def cpX (M : Model) (A : Around) (Ex : Value → Shared → Prop) (use : Option (Value → Sem Unit)) (Q : Value → Shared → Prop) (acc : Value) (ce : Env) (r : Result) (t : Shared) : Prop :=
  (∀ f, r = .ok f → use = none → ∃ m, t.heap.Ns ce.locals m ∧ ∀ h', Heap.SameBut ce.locals t.heap h' → Q acc { t with heap := h' }) ∧
  (∀ f v, r = .ok f → use = some v → wpAny M A (v acc) (fun _ t2 => ∃ m, t2.heap.Ns ce.locals m ∧ ∀ h', Heap.SameBut ce.locals t2.heap h' → Q .none { t2 with heap := h' }) Ex t) ∧
  (∀ x, r = .error x → ∃ m, t.heap.Ns ce.locals m ∧ ∀ h', Heap.SameBut ce.locals t.heap h' → wpAny M A (PySem.passOn "comprehension.variables-let-go" x ce : Sem Value) (fun _ _ => False) Ex { t with heap := h' })
theorem blk_leaves {Ex : Value → Shared → Prop} {use : Option (Value → Sem Unit)} {Qf : Value → Shared → Prop} {acc : Value} (hs : X.stack = X.env :: X.outer) (hf : X.env.frame = some X.env.locals) (tk : Takes X (fun cls d _ H => E cls d H))
    (I3 : Inv X pins σ H3 s3) (f3 : ∀ b ∈ fp, FpOk X pins H3 b ∧ b < s3.heap.objs.size) (hcl : ce.locals = s3.heap.objs.size) (hcf : ce.frame = X.env.frame) (x : XI X s3 H3 scope ce fp E u s') :
    wpAny (model X.prog X.w) X.A (noteFrame u ce) (fun _ t => cpX (model X.prog X.w) X.A X.xe use Qf acc ce (.error u) t) Ex s' := by
  obtain ⟨pins1, σ1, H1, s1, I1, a, B, H', cls, d, rfl, fl, hok, ub, na, os, ag, hE⟩ := x
  have hfr : X.A.frames = some (X.env :: X.outer) := by rw [I3.ok.frames, hs]
  rw [note_same hcf]
  rw [hs] at fl
  refine HandSPX.looks_onZ Zc.steady hfr hf fl fun h1 held up1 => ?_
  obtain ⟨m, hn, _⟩ := I1.loc
  obtain ⟨oC, es, ep, hC, hr⟩ := hn
  have hC : s1.heap.get? ce.locals = some oC := hC
  have nfrs : ∀ b ∈ frs X.stack, b ≠ ce.locals := fun b hb z => by
    rw [hcl] at z
    rcases List.mem_cons.mp (I3.stkSub b hb) with e | e
    · exact absurd (Nat.lt_of_lt_of_le I3.lt (Nat.le_of_eq z.symm)) (by rw [e]; exact Nat.lt_irrefl _)
    · exact I3.nofs (Nat.le_of_eq z.symm) e
  have hCn : H1 ce.locals = none := I1.free
  have hBC : B.get? ce.locals = some oC := ub.keep _ _ hC hCn fun z => nfrs _ z rfl
  refine ⟨fun f z => (nomatch z), fun f v z => (nomatch z), fun x ex => ?_⟩
  cases ex
  refine ⟨m, ⟨oC, es, ep, held.1 _ _ hBC, hr⟩, fun h2 sb => ?_⟩
  obtain ⟨B2, b1, b2⟩ := restrict B fun b => decide (b ≠ ce.locals)
  have B2s : ∀ b o, B2.get? b = some o → B.get? b = some o ∧ b ≠ ce.locals := fun b o e => by
    by_cases hb : b = ce.locals
    · rw [b2 b (by simp [hb])] at e; cases e
    · rw [b1 b (by simp [hb])] at e; exact ⟨e, hb⟩
  have B2n : ∀ b, B.get? b = none → B2.get? b = none := fun b e => by
    cases q : B2.get? b with
    | none => rfl
    | some o => have := (B2s b o q).1; rw [e] at this; cases this
  have B2k : ∀ b o, B.get? b = some o → b ≠ ce.locals → B2.get? b = some o := fun b o e hb => by rw [b1 b (by simp [hb])]; exact e
  obtain ⟨k1, k2, k3, oe, vs, T, oT, ts, he, hz, hd, hv1, hnT, hTe, hT, hdT, hv3⟩ := held
  have neC : ∀ b, B.get? b = none → b ≠ ce.locals := fun b e z => by rw [z, hBC] at e; cases e
  have held2 : HandSPX.HeldZ B2 (X.env :: X.outer) a (Zc cls d) X.env.locals h2 := by
    refine ⟨fun b o e => ?_, B2n a k2, frames_but sb B2n k3 (by rw [← hs]; exact nfrs), oe, vs, T, oT, ts, (sb.2 a (neC a k2)).trans he, hz, hd, hv1, B2n T hnT, hTe, (sb.2 T (neC T hnT)).trans hT, hdT, hv3⟩
    obtain ⟨e1, e2⟩ := B2s b o e
    exact (sb.2 b e2).trans (k1 b o e1)
  have he2 : h2.get? a = some oe := (sb.2 a (neC a k2)).trans he
  unfold PySem.passOn
  refine wpAny_bind (wpAny_field (s := { s' with heap := h2 }) he2 hd hv1 ?_)
  rw [if_neg (show ¬ ((Value.ref T == Value.none) = true) from by simp)]
  rw [hcf, hf]
  refine wpAny_bind (HandSPX.setFlight_onZ (s := { s' with heap := h2 }) held2 fun h4 held4 up4 => ?_)
  refine wpAny_throw (tk _ _ ?_)
  obtain ⟨G, g1, g2⟩ := restrict h4 fun b => (B2.get? b).isSome || decide (b ∈ frs X.stack)
  have gB : ∀ b o, B2.get? b = some o → G.get? b = some o := fun b o e => by rw [g1 b (by simp [e])]; exact held4.1 b o e
  have gF : ∀ b, b ∈ frs X.stack → G.get? b = h4.get? b := fun b hb => g1 b (by simp [hb])
  have og : ∀ b o, G.get? b = some o → h4.get? b = some o ∧ ((B2.get? b).isSome = true ∨ b ∈ frs X.stack) := fun b o e => by
    cases q : ((B2.get? b).isSome || decide (b ∈ frs X.stack)) with
    | false => rw [g2 b q] at e; cases e
    | true => rw [g1 b q] at e; exact ⟨e, by simpa [Bool.or_eq_true] using q⟩
  have lt3 : ∀ b o, s3.heap.get? b = some o → b ≠ ce.locals := fun b o e z => by rw [z, hcl] at e; exact absurd (Heap.lt_size e) (Nat.lt_irrefl _)
  have fr : ∀ b o, s3.heap.get? b = some o → b ∈ frs X.stack → b ∉ fp → ∃ sl, G.get? b = some { o with slots := sl } := fun b o e hb hc => by
    obtain ⟨_, o', e', hnf⟩ := I3.stack.mem hb
    rw [e] at e'; cases e'
    obtain ⟨sl1, q1⟩ := I1.base.slot b o e (I3.stkFree b hb) hb hc
    obtain ⟨sl2, q2⟩ := ub.slot b _ q1 hb
    obtain ⟨sl3, q3⟩ := up1 b _ q2 hnf
    have q4 : h2.get? b = _ := (sb.2 b (nfrs b hb)).trans q3
    obtain ⟨sl4, q5⟩ := up4 b _ q4 hnf
    exact ⟨sl4, (gF b hb).trans q5⟩
  refine ⟨a, B2, { s3 with heap := G, gens := s'.gens, drawn := s'.drawn, toks := s'.toks }, pins, σ, H', cls, d, rfl, ?_, fun b o e hb => ?_, Heap.UpToSlots.of_keeps fun b o e => (og b o e).1, .inr (.inr (by rw [hs]; exact held4)), na, os.trans I1.os, ag, hE⟩
  · refine I3.call (ch := fp) ⟨fun b o e n hb hc => ?_, fun b o e n hb hc => fr b o e hb hc, fun b o e n hc => ?_, fun b o e hc => ?_, fun b xs e => ub.tups b xs (I1.base.tups b xs e), fun b o v e => ub.frzs b o v (I1.base.frzs b o v e), fun b ps e => ?_⟩ ?_ ag fun b hb => ?_
    · exact gB b o (B2k b o (ub.keep b o (I1.base.keep b o e n hb hc) (I1.base.free b o e n hc) hb) (lt3 b o e))
    · by_cases hb : b ∈ frs X.stack
      · obtain ⟨sl, q⟩ := I1.base.slot b o e n hb hc
        exact ub.free b _ q (I1.base.free b o e n hc)
      · exact ub.free b o (I1.base.keep b o e n hb hc) (I1.base.free b o e n hc)
    · by_cases hb : b ∈ frs X.stack
      · obtain ⟨sl, q⟩ := fr b o e hb hc
        exact ⟨_, q⟩
      · obtain ⟨o1, q1⟩ := I1.base.there b o e hc
        obtain ⟨o2, q2⟩ := ub.there b o1 q1 hb
        exact ⟨o2, gB b o2 (B2k b o2 q2 (lt3 b o e))⟩
    · obtain ⟨m1, q1⟩ := I1.base.tbls b ps e
      obtain ⟨m2, q2⟩ := ub.tbls b _ q1
      exact ⟨m1 ++ m2, by rw [q2, Array.append_assoc]⟩
    · have hH'C : H' ce.locals = none := ub.free _ _ hC hCn
      exact fun b o q => (hok b o q).stay (fun c v hc r => gB c v (B2k c v r fun z => by
        rcases hc with e | e
        · rw [← e, z, hH'C] at q; cases q
        · rw [z, hH'C] at e; cases e)) (fun _ r => r) fun _ _ r => r
    · exact ⟨(f3 b hb).1.2.2.2.1, (f3 b hb).1.2.1, (f3 b hb).1.2.2.2.2.1, (f3 b hb).1.2.2.2.2.2⟩
  · obtain ⟨e1, h⟩ := og b o e
    rcases h with h | h
    · obtain ⟨o', q⟩ := Option.isSome_iff_exists.mp h
      have z := held4.1 b o' q
      rw [e1] at z; cases z
      exact q
    · exact absurd h hb
/-- a comprehension, what flies in it told -/
theorem compr_free {M : Model} {A : Around} {Ex : Value → Shared → Prop} {s : Shared} {env : Env} {e : Expr} {pos : Pos} {nw fst_ : Sem Value} {g : Comprehension} {gs : List Comprehension} {cl : List (Str × Addr)} {use : Option (Value → Sem Unit)} {Q : Value → Shared → Prop}
    (h1 : clausesOf e = g :: gs) (h2 : ∀ z, foldedSetIterable g.iter env z = pure z) (h3 : closureFor scope env = pure cl) (h4 : scope.kind = .function) (h5 : ∀ z ∈ scope.names, z.2 = .local → scope.names.lookup z.1 = some .local)
    (h : wpAny M A fst_ (fun z t1 => wpAny M A (pyIter z) (fun it t2 => wpAny M A nw (fun acc t3 => wpAny M A (newFunctionEnv scope env.globals cl [] env.qual none .none (some env)) (fun c4 t4 =>
      codeAny M A (.compStart e 0 it acc { c4 with scope := relabel scope env }) (cpX M A Ex use Q acc { c4 with scope := relabel scope env }) t4) Ex t3) Ex t2) Ex t1) Ex s) :
    wpAny M A (comprehension e scope env pos nw false fst_ use) Q Ex s := by
  unfold comprehension
  rw [h3, h1]
  refine wpAny_bind (wpAny_mono h (fun z t1 k1 => ?_) fun _ _ y => y)
  refine wpAny_bind (wpAny_standAt (wpAny_bind (wpAny_of_eq (h2 z) (wpAny_bind (wpAny_holding (wpAny_mono k1 (fun it t2 k2 => ?_) fun _ _ y => y))))))
  refine wpAny_standIf (wpAny_bind (wpAny_mono k2 (fun acc t3 k3 => ?_) fun _ _ y => y))
  refine wpAny_bind (wpAny_pure (wpAny_bind (wpAny_mono k3 (fun c4 t4 k4 => ?_) fun _ _ y => y)))
  dsimp only
  generalize hvs : (scope.names.filter fun x => (x.2 == .local || x.2 == .cell) && x.1 != (".0" : Str)).reverse = vs
  have hin : ∀ x ∈ vs, x.2 = .local → Env.kindOf { c4 with scope := relabel scope env } x.1 = some .local := fun x hx hl => by
    rw [← hvs] at hx
    exact lookup_relabel_local (h5 x (List.mem_filter.mp (List.mem_reverse.mp hx)).1 hl)
  have hin2 : ∀ x ∈ vs.drop 1 ++ vs.take 1, x.2 = .local → Env.kindOf { c4 with scope := relabel scope env } x.1 = some .local := fun x hx hl =>
    (List.mem_append.mp hx).elim (fun q => hin x (List.mem_of_mem_drop q) hl) fun q => hin x (List.mem_of_mem_take q) hl
  have hk : ({ c4 with scope := relabel scope env } : Env).scope.kind = .function := h4
  refine wpAny_holding (wpAny_bind (wpAny_attempt (wpAny_holding (wpAny_run (codeAny_mono k4 fun r t kr => ?_)))))
  obtain ⟨r1, r2, r3⟩ := kr
  cases r with
  | ok f =>
    cases use with
    | none =>
      obtain ⟨m, hn, k5⟩ := r1 f rfl rfl
      exact wpAny_bind (wpAny_holding (wpAny_comp_letGo hk _ t m hin hn fun h' m' _ sb => wpAny_pure (k5 h' sb)))
    | some v =>
      refine wpAny_bind (wpAny_rule (wpAny_bind (wpAny_holding (wpAny_mono (r2 f v rfl rfl) (fun _ t5 k5 => ?_) fun _ _ y => y))))
      obtain ⟨m, hn, k6⟩ := k5
      exact wpAny_bind (wpAny_comp_letGo hk _ t5 m hin2 hn fun h' m' _ sb => wpAny_pure (k6 h' sb))
  | error x =>
    obtain ⟨m, hn, k5⟩ := r3 x rfl
    exact wpAny_bind (wpAny_holding (wpAny_comp_letGo hk _ t m hin hn fun h' m' _ sb => wpAny_mono (k5 h' sb) (fun _ _ z => z.elim) fun _ _ y => y))
/-- the block's context, an exception of a call may fly in it -/
abbrev BX (X : Cx) (t : Shared) (Hb : Hp) (scope : Scope) (ce : Env) (fp : List Addr) (E : XK) : Cx := (X.blk t Hb scope ce fp).wish (XI X t Hb scope ce fp E)
theorem lcX_core {H : Hp} {s : Shared} {Q : VK} {elt tg iter : Expr} {ifs : List Expr} {own : List (Str × Nat)} {pos pos' : Pos} {wi : TI} {g : TG} {tt : TT} {te : TE} {use : Option (Value → Sem Unit)} {Qf : Value → Shared → Prop}
    (hc : X.calm = true) (hN : X.N.Nodup) (hst : X.stack = X.env :: X.outer) (hfm : X.env.frame = some X.env.locals) (tk : Takes X (fun cls d _ H => E cls d H)) (I : Inv X pins σ H s) (hi : PI X tg iter wi) (ok : BlkOk X.N X.env.scope scope own)
    (hg : ∀ (t : Shared) (Hb : Hp) (C : Addr) (cl : List (Str × Addr)) (fp : List Addr), PG (BX X t Hb scope (compEnvC scope cl C X.env) fp E) tg g)
    (ht : ∀ (t : Shared) (Hb : Hp) (C : Addr) (cl : List (Str × Addr)) (fp : List Addr), PTs (BX X t Hb scope (compEnvC scope cl C X.env) fp E) ifs tt)
    (he : ∀ (t : Shared) (Hb : Hp) (C : Addr) (cl : List (Str × Addr)) (fp : List Addr), PE (BX X t Hb scope (compEnvC scope cl C X.env) fp E) elt te)
    (hs : ∀ x, foldedSetIterable iter X.env x = pure x) (h : tLc wi g tt te (own.map (·.2)) σ H Q)
    (fin0 : ∀ Dl (ce : Env) t m H', Inv X pins σ H' t → Q (.ref Dl) H' → t.heap.Ns ce.locals m → FpOk X pins H' ce.locals → cpX (model X.prog X.w) X.A X.xe use Qf (.ref Dl) ce (.ok .next) t) :
    wpAny (model X.prog X.w) X.A (comprehension (.ListComp elt [⟨tg, iter, ifs, 0⟩] scope pos) scope X.env pos' (newList []) false (eval iter X.env) use) Qf X.xe s := by
  have hfree : ∀ y ∈ scope.names, y.2 = .free → ∃ c, X.env.cells.lookup y.1 = some c := fun y hy e =>
    (ok.free y hy e).elim (fun k => I.ok.has _ (.inl k)) fun k => I.ok.has _ (.inr k)
  refine compr_free (use := use) rfl hs (closure_ok hfree) ok.kind (fun y hy e => by rw [ok.uniq y hy, e]) (thn (hi.run pins s σ H _ I h) fun xv t1 hx => thn hx fun itv t2 k2 => ?_)
  obtain ⟨it, fp, tn, J, H2, e, I2, T, sa2, f2, q⟩ := k2
  subst e
  refine wpAny_newObj_type (newEnv_comp ?_) (by show 0 ≤ sizeLine; decide)
  generalize hD : t2.heap.objs.size = Dl
  have hDo : H2 Dl = none := I2.hok.fresh (Nat.le_of_eq hD)
  obtain ⟨Wt, ⟨m0, w0⟩, tn2⟩ := q Dl hDo
  generalize ht3 : ({ t2 with heap := t2.heap.push { cls := .type "list", data := .seq ([] : List Value).toArray } } : Shared) = t3
  have I3 : Inv X pins σ (upd H2 Dl (.lst [])) t3 := by
    rw [← ht3]
    exact I2.laid (t' := t2.toks) (fun b o e => Heap.get?_push_of_some _ e) (Nat.le_of_eq hD) ⟨Nat.zero_le _, [], 0, .nil, by rw [← hD]; exact Heap.get?_push_size _ rfl⟩
  have hp3 : t3.heap = t2.heap.push { cls := .type "list", data := .seq ([] : List Value).toArray } := by rw [← ht3]
  have f3 : ∀ b ∈ fp, FpOk X pins (upd H2 Dl (.lst [])) b ∧ b < t3.heap.objs.size := fun b hb => by
    obtain ⟨o, e, _⟩ := T.obj _ _ sa2 b hb
    have hlt := Heap.lt_size e
    exact ⟨⟨by rw [upd_ne (by rw [← hD]; exact Nat.ne_of_lt hlt)]; exact (f2 b hb).1, (f2 b hb).2⟩, by rw [hp3, Heap.size_push]; exact Nat.lt_succ_of_lt hlt⟩
  have st3 : tn 0 t3.heap := T.keep _ _ _ sa2 fun b _ o e => by rw [hp3]; exact Heap.get?_push_of_some _ e
  have J4 := block_start I3 ok hN f3
  have pg := hg t3 (upd H2 Dl (.lst [])) t3.heap.objs.size (cellsFrom (t3.heap.objs.size + 1) scope.names (cloFrom X.env.cells scope.names [])) fp
  have pt := ht t3 (upd H2 Dl (.lst [])) t3.heap.objs.size (cellsFrom (t3.heap.objs.size + 1) scope.names (cloFrom X.env.cells scope.names [])) fp
  have pe := he t3 (upd H2 Dl (.lst [])) t3.heap.objs.size (cellsFrom (t3.heap.objs.size + 1) scope.names (cloFrom X.env.cells scope.names [])) fp
  show codeAny _ _ (.compStart (.ListComp elt [⟨tg, iter, ifs, 0⟩] scope pos) 0 (.ref it) (.ref Dl) (compEnvC scope (cellsFrom (t3.heap.objs.size + 1) scope.names (cloFrom X.env.cells scope.names [])) t3.heap.objs.size X.env))
    (cpX (model X.prog X.w) X.A X.xe use Qf (.ref Dl) (compEnvC scope (cellsFrom (t3.heap.objs.size + 1) scope.names (cloFrom X.env.cells scope.names [])) t3.heap.objs.size X.env)) { t3 with heap := pushCells (t3.heap.push { cls := .type "dict", data := .dict #[] }) scope.names }
  have nof : ∀ b ∈ fp, (upd H2 Dl (.lst [])) b = none := fun b hb => (f3 b hb).1.1
  generalize hce : compEnvC scope (cellsFrom (t3.heap.objs.size + 1) scope.names (cloFrom X.env.cells scope.names [])) t3.heap.objs.size X.env = ce at J4 pg pt pe ⊢
  have cL : ce.locals = t3.heap.objs.size := by rw [← hce]; rfl
  have cF : ce.frame = X.env.frame := by rw [← hce]; rfl
  generalize hH3 : upd H2 Dl (.lst []) = Hb at I3 J4 pg pt pe w0 nof f3
  generalize ht4 : ({ t3 with heap := pushCells (t3.heap.push { cls := .type "dict", data := .dict #[] }) scope.names } : Shared) = t4 at J4 ⊢
  have st4 : tn 0 t4.heap := T.keep _ _ _ st3 fun b _ o e => by rw [← ht4]; exact pushCells_keeps _ _ _ _ (Heap.get?_push_of_some _ e)
  have out : ∀ u' t', XI X t3 Hb scope ce fp E u' t' → notedBy (model X.prog X.w) X.A ce (fun x r => cpX (model X.prog X.w) X.A X.xe use Qf (.ref Dl) ce (.error x) r) u' t' := fun u' t' x => blk_leaves hst hfm tk I3 f3 cL cF x
  have stat : ∀ {σ' : L2.St} {H' : Hp} {t' : Shared}, Inv (X.blk t3 Hb scope ce fp) [] σ' H' t' → (∀ b ∈ fp, H' b = none) → ∀ b ∈ fp, FpOk (X.blk t3 Hb scope ce fp) [] H' b := fun {σ' H' t'} J' hn b hb =>
    ⟨hn b hb, (J'.ok.exf b hb).1, J'.ok.exfs b hb, .inl hb, fun x c e => (J'.ok.exf b hb).2 x c e, fun p hp => absurd (show p ∈ ([] : List (Addr × Obj)) ++ [] from hp) (by simp)⟩
  refine codeAny_compStart_list ?loop (T.self X.A 0 _ _ _ st4 ?loop)
  refine compLoop_any (fun n t' => ∃ i H', Inv (X.blk t3 Hb scope ce fp) [] (wipe σ (own.map (·.2))) H' t' ∧ tn i t'.heap ∧ (∀ b ∈ fp, H' b = none) ∧ Wt i n H') ?_ m0 ⟨0, Hb, J4, st4, nof, w0⟩
  rintro n t5 ⟨i, H5, I5, st5, n5, w5⟩
  rcases tn2 i n H5 w5 with ⟨stop, qe⟩ | ⟨go, Nx, hNx, step⟩
  · refine thnF (T.done (X.blk t3 Hb scope ce fp) rfl rfl rfl hc i [] t5 _ H5 (fun _ _ => False) I5 (stat I5 n5) st5 stop) fun r t6 ⟨hr, I6⟩ => ?_
    subst hr
    have I7 : Inv X pins σ H5 t6 := I3.call' (ch := fp) I6.os I6.base I6.hok I6.bare fun b hb => ⟨(f3 b hb).1.2.2.2.1, (f3 b hb).1.2.1, (f3 b hb).1.2.2.2.2.1, (f3 b hb).1.2.2.2.2.2⟩
    obtain ⟨m, hn, _⟩ := I6.loc
    exact fin0 Dl ce t6 m H5 I7 qe hn (I3.fpOk (Nat.le_of_eq cL.symm) I6.free)
  · refine thnF (T.item (X.blk t3 Hb scope ce fp) rfl rfl rfl hc i [] t5 _ H5 (fun _ _ => False) I5 (stat I5 n5) st5 go) fun r t6 ⟨v, hr, k6⟩ => ?_
    subst hr
    refine thnF k6 fun _ t7 ⟨x, H7, I7, r7, y7, st7, n7⟩ => ?_
    have J7 := I7.pinned (stat I7 n7) (T.obj _ _ st7)
    refine wpAny_mono (pg.run _ t7 _ H7 x v _ (J7.wish _) r7 (step x H7 y7)) (fun _ t8 ⟨σ8, H8, I8, hw8, q8⟩ => ?_) out
    refine wpAny_mono (pt.run _ t8 σ8 H8 _ I8 q8) (fun b t9 ⟨H9, I9, q9⟩ => ?_) out
    have fin : ∀ {t' : Shared} {H' : Hp}, Inv (X.blk t3 Hb scope ce fp) ([] ++ pinsAt fp t7.heap) σ8 H' t' → Nx H' → ∃ m, m < n ∧ ∃ i H', Inv (X.blk t3 Hb scope ce fp) [] (wipe σ (own.map (·.2))) H' t' ∧ tn i t'.heap ∧ (∀ b ∈ fp, H' b = none) ∧ Wt i m H' := fun {t' H'} J' nx => by
      obtain ⟨m', hm, w2⟩ := hNx H' nx
      have pin' : ∀ b ∈ fp, ∀ o, t7.heap.get? b = some o → t'.heap.get? b = some o ∧ H' b = none := fun b hb o e =>
        ⟨(J'.pin (b, o) (List.mem_append_right _ (List.mem_append_right _ (mem_pinsAt hb e)))).1, (J'.pin (b, o) (List.mem_append_right _ (List.mem_append_right _ (mem_pinsAt hb e)))).2.1⟩
      refine ⟨m', hm, i + 1, H', (J'.unpinned (pins := [])).weak (by rw [← hw8, wipe_length]) (fun j v e => by rw [← hw8] at e; exact (wipe_some e).1), T.keep _ _ _ st7 fun b hb o e => (pin' b hb o e).1, fun b hb => ?_, w2⟩
      obtain ⟨o, e, _⟩ := T.obj _ _ st7 b hb
      exact (pin' b hb o e).2
    cases b with
    | false =>
      rw [if_neg Bool.false_ne_true] at q9
      show (if false = true then _ else _)
      rw [if_neg Bool.false_ne_true]
      exact  fin I9.unwish q9
    | true =>
      rw [if_pos rfl] at q9
      show (if true = true then _ else _)
      rw [if_pos rfl]
      refine wpAny_mono (pe.run _ t9 σ8 H9 _ I9 q9) (fun z t10 ⟨yv, H10, I10, r10, acc, hD10, hz10, nx⟩ => ?_) out
      exact app_ok (X := X.blk t3 Hb scope ce fp) I10.unwish hD10 hz10 r10 fun t11 I11 => fin I11 nx
theorem ps_setLcX {i : Nat} {y : Str} {py : Pos} {elt tg iter : Expr} {ifs : List Expr} {own : List (Str × Nat)} {pos spos : Pos} {wi : TI} {g : TG} {tt : TT} {te : TE} (hc : X.calm = true) (hN : X.N.Nodup) (hst : X.stack = X.env :: X.outer) (hfm : X.env.frame = some X.env.locals)
    (tk : Takes X (fun cls d _ H => E cls d H)) (hy : X.N[i]? = some y) (hyl : X.env.scope.names.lookup y = some .local) (hsw : swapsWith (.ListComp elt [⟨tg, iter, ifs, 0⟩] scope pos) (some (.Name y py)) spos.line X.env = pure true) (hi : PI X tg iter wi) (ok : BlkOk X.N X.env.scope scope own)
    (hg : ∀ (t : Shared) (Hb : Hp) (C : Addr) (cl : List (Str × Addr)) (fp : List Addr), PG (BX X t Hb scope (compEnvC scope cl C X.env) fp E) tg g)
    (ht : ∀ (t : Shared) (Hb : Hp) (C : Addr) (cl : List (Str × Addr)) (fp : List Addr), PTs (BX X t Hb scope (compEnvC scope cl C X.env) fp E) ifs tt)
    (he : ∀ (t : Shared) (Hb : Hp) (C : Addr) (cl : List (Str × Addr)) (fp : List Addr), PE (BX X t Hb scope (compEnvC scope cl C X.env) fp E) elt te)
    (hs : ∀ x, foldedSetIterable iter X.env x = pure x := by intro _; rfl) :
    PS X (.Assign [.Name y py] (.ListComp elt [⟨tg, iter, ifs, 0⟩] scope pos) spos) (tAsg (tLc wi g tt te (own.map (·.2))) (gName i)) := by
  refine ⟨fun pins s σ H D I h => ?_⟩
  rw [exec_Assign_Name_used _ _ _ _ hsw]
  refine wpAny_bind (wpAny_standAt (wpAny_bind ?_))
  show wpAny _ X.A (do
    let _ ← comprehension (.ListComp elt [⟨tg, iter, ifs, 0⟩] scope pos) scope X.env (firstIterPos [⟨tg, iter, ifs, 0⟩] pos) (newList []) false (eval iter X.env) (some (assign (.Name y py) X.env))
    pure ()) _ _ s
  have h0 : tLc wi g tt te (own.map (·.2)) σ H (fun x H1 => gName i x σ H1 D.nx) := h
  refine wpAny_bind (thn (lcX_core (Qf := fun _ s' => SP X pins D .next s') hc hN hst hfm tk I hi ok hg ht he hs h0 fun L ce t m H' I' q hn f => ?_) fun _ s' hq => wpAny_pure (wpAny_pure hq))
  refine ⟨fun _ _ z => (nomatch z), fun _ v _ e2 => ?_, fun x z => (nomatch z)⟩
  cases e2
  refine wpAny_assign_Name (store_ok2 (v := V.ref L) I' hN hy (.inl hyl) rfl (fun s2 I2 ⟨a, sb, ha⟩ => ?_) (.inr hyl))
  obtain ⟨f0, f1, f2, f3, f4, f5⟩ := f
  have haC : ce.locals ≠ a := ha.elim (fun z => by rw [z]; exact f1) fun z e => f4 y a z e.symm
  exact ⟨m, hn.sameBut sb haC, fun h3 sb3 => ⟨_, H', I2.turned (t' := s2.toks) (fun b o hb e => (sb3.2 b hb).trans e) f0 f1 f3 f4 f5, q⟩⟩
end
section
variable {G : Gp} {E : XK} {X : Cx} {js : List Nat} {g : DTG} {tt : DTT} {te : DTE} {it : DTI} {elt tg iter : Expr} {ifs : List Expr} {scope : Scope} {own : List (Str × Nat)} {pos : Pos}
/-- y = [.. for .. in ..], what is called in it may raise -/
theorem psd_setLcX {i : Nat} {y : Str} {py spos : Pos} (hc : X.calm = true) (hN : X.N.Nodup) (hst : X.stack = X.env :: X.outer) (hfm : X.env.frame = some X.env.locals) (tk : Takes X (fun cls d _ H => E cls d H)) (hy : X.N[i]? = some y) (hyl : X.env.scope.names.lookup y = some .local)
    (hsw : swapsWith (.ListComp elt [⟨tg, iter, ifs, 0⟩] scope pos) (some (.Name y py)) spos.line X.env = pure true) (hi : PI X tg iter (cI G E it)) (ok : BlkOk X.N X.env.scope scope own)
    (hg : ∀ (t : Shared) (Hb : Hp) (C : Addr) (cl : List (Str × Addr)) (fp : List Addr), PG (BX X t Hb scope (compEnvC scope cl C X.env) fp E) tg (cG G js g)) (ht : ∀ (t : Shared) (Hb : Hp) (C : Addr) (cl : List (Str × Addr)) (fp : List Addr), PTs (BX X t Hb scope (compEnvC scope cl C X.env) fp E) ifs (cT G E tt))
    (he : ∀ (t : Shared) (Hb : Hp) (C : Addr) (cl : List (Str × Addr)) (fp : List Addr), PE (BX X t Hb scope (compEnvC scope cl C X.env) fp E) elt (cE G E te)) (hj : ∀ j ∈ js, j ∈ own.map (·.2)) (hs : ∀ x, foldedSetIterable iter X.env x = pure x := by intro _; rfl) :
    PS X (.Assign [.Name y py] (.ListComp elt [⟨tg, iter, ifs, 0⟩] scope pos) spos) (cS G E (dAsg (dLc it g tt te (own.map (·.2))) (dgName i))) := ps_weak (ps_setLcX hc hN hst hfm tk hy hyl hsw hi ok hg ht he hs) fun D σ H h => by
  obtain ⟨H0, r, γ, ρ, XX, DD, env, q, hx, l⟩ := h
  refine cE_lc hj ⟨H0, r, γ, ρ, XX, _, env, q, hx, fun v k d H1 ⟨n, hn, q1⟩ e1 hr r1 => ?_⟩
  have N1 : Now G H0 r γ H H1 σ ρ := ⟨env, e1, hr⟩
  exact l.nx _ H1 _ (N1.now.setv ((N1.cxt.stn hn r1).imp fun a p => nk_sub p)) q1
theorem passXI {t : Shared} {Hb : Hp} {ce : Env} {fp : List Addr} : Passes (L2.CX X.prog X.w) (BX X t Hb scope ce fp E) E := fun pins σ H1 s1 _ _ I c => ⟨pins, σ, H1, s1, I.unwish, c⟩
/-- a call that may raise, in a comprehension -/
theorem pd_callXb {x : Str} {p : Pos} {e : Expr} {es : List Expr} {dt : DTA} {k : Nat} {ps : List Str} {fn : DSp} (C : Cal X.prog X.w X.K X.mg X.base (L2.CX X.prog X.w) k x ps (spD G fn)) (hr : Room k X.A) (hp : Passes (L2.CX X.prog X.w) X E) (ha : PA X (e :: es) (cA G E dt)) (hg : Gl X x := by rfl) (hdb : (x == ("__debug__" : Str)) = false := by decide)
    (he : starEach (e :: es) X.env = (false, eval e X.env) :: starEach es X.env := by rfl) (hpl : (backTo pos (starEach es X.env)).any (·.1) = false := by rfl) :
    PE X (.Call (.Name x p) (e :: es) [] pos) (cE G E (dCallX fn dt)) := by
  obtain ⟨f, fd, h1, h2, h3, h4⟩ := C.ex
  refine pe_weak (pe_call (E := E) h4 hr hg h1 h2 h3 .nil hp ha hdb he hpl) fun σ H Qv h => ?_
  obtain ⟨H0, r, γ, ρ, XX, Q, env, q, hx, post⟩ := h
  refine cA_at (Now.start env) q hx fun vs k ds H1 q1 e1 N1 r1 => ?_
  rw [List.append_nil]
  refine ⟨r, ds, XX, _, N1.row, r1.imp fun a p => N1.cxt.ne_r p, q1, fun xn cls dd H' h1 h2 h3 h4 => hx xn cls dd H' h1 (N1.now.ext.trans h2) h3 h4, fun v d H' q2 e2 hr2 r2 => ?_⟩
  exact post v .fr d H' q2 (e1.trans e2) hr2 (r2.imp fun a p => e1.there a p)
end
end HD

set_option Elab.async false
set_option linter.all false
set_option maxRecDepth 100000
set_option maxHeartbeats 400000
/-! readings: numbers and rows read -/
namespace HD
open PySem PySem.Spec PyProof.Rows L2
/-- the digits of a word that are none -/
theorem dig_lc {XX : Exn → Prop} {ρ : Rho} {Q : KQ} {w : Str} {j : Nat} {it : DTI} (hl : w.length ≤ 100000) (hok : PyData.strOk w = true) (hno : noOwn ρ [j] = true) (hj : j < ρ.length) (hit : ∀ Qi : Kd → List D → Prop, Qi .sf (w.cps.toList.map sgD) → it XX ρ Qi)
    (h : Q .fr (.lst ((w.cps.toList.filter fun c => !digitsL.contains c).map sgD))) : dLc it (dgName j) (dB (dOp (rdIn true) (dVar j) (dC (.str ("0123456789" : Str))))) (dVar j) [j] XX ρ Q := by
  have hlen : w.cps.toList.length = w.length := by simp [Str.length]
  have hw : (wipeR ρ [j]).length = ρ.length := by simp [wipeR]
  refine lc_fil w.cps.toList sgD (k := .sf) .fr (fun c => !digitsL.contains c) sgD rfl hit (by omega) hno (by decide) (fun c hc K K0 h1 h0 => ?_) h
  refine ⟨.v false (sgD c), List.getElem?_set_self (by rw [hw]; exact hj), ?_⟩
  by_cases hcl : c ∈ ("0123456789" : Str).cps
  · simp [sgD]
    exact .inl ⟨hcl, h0 (by simp [digitsL, hcl])⟩
  · simp [sgD]
    refine .inr ⟨hcl, ⟨.v false (sgD c), List.getElem?_set_self (by rw [hw]; exact hj), h1 (by simp [digitsL, hcl]) _ kf⟩⟩
theorem dig_q {Q : Prop} {Q2 : Prop} {w : Str} (hok : PyData.strOk w = true) (h1 : (∀ c ∈ w.cps.toList, c ∈ digitsL) → Q) (h2 : (¬ ∀ c ∈ w.cps.toList, c ∈ digitsL) → Q2) :
    D.cmp 60 (D.lst ((w.cps.toList.filter fun c => !digitsL.contains c).map sgD)) = true ∧ ((deq (D.lst ((w.cps.toList.filter fun c => !digitsL.contains c).map sgD)) (D.lst []) = true ∧ Q) ∨ (deq (D.lst ((w.cps.toList.filter fun c => !digitsL.contains c).map sgD)) (D.lst []) = false ∧ Q2)) := by
  refine ⟨?_, ?_⟩
  · rw [c_lst60, cs_sg, List.all_eq_true]
    exact fun c hc => str1 c (strOk_mem hok (List.mem_filter.mp hc).1)
  · by_cases h : ∀ c ∈ w.cps.toList, c ∈ digitsL
    · refine .inl ⟨?_, h1 h⟩
      rw [List.filter_eq_nil_iff.mpr fun c hc => by simp [h c hc]]
      simp
    · refine .inr ⟨?_, h2 h⟩
      obtain ⟨c, hc⟩ := Classical.not_forall.mp h
      obtain ⟨hc, hn⟩ := Classical.not_imp.mp hc
      have hm : c ∈ w.cps.toList.filter fun c => !digitsL.contains c := List.mem_filter.mpr ⟨hc, by simp [hn]⟩
      cases e : w.cps.toList.filter fun c => !digitsL.contains c with
      | nil => rw [e] at hm; cases hm
      | cons a l => simp
theorem numC_iff {w : Str} : numC w = true ↔ (1 ≤ w.length ∧ w.length ≤ 3) ∧ (∀ c ∈ w.cps.toList, c ∈ digitsL) ∧ ¬ (w.cps.toList.head? = some 48 ∧ 1 < w.length) := by
  unfold numC
  simp only [Bool.and_eq_true, decide_eq_true_eq, List.all_eq_true, List.contains_iff_mem, Bool.not_eq_true', Bool.and_eq_false_iff, decide_eq_false_iff_not]
  constructor
  · rintro ⟨⟨⟨h1, h2⟩, h3⟩, h4⟩
    exact ⟨⟨h1, h2⟩, h3, fun z => h4.elim (fun q => q z.1) fun q => q z.2⟩
  · rintro ⟨⟨h1, h2⟩, h3, h4⟩
    refine ⟨⟨⟨h1, h2⟩, h3⟩, ?_⟩
    by_cases h : w.cps.toList.head? = some 48
    · exact .inr fun z => h4 ⟨h, z⟩
    · exact .inl h
theorem one0 {c : Nat} : (⟨#[c]⟩ : Str) = ("0" : Str) ↔ c = 48 := by
  constructor
  · intro z
    have := congrArg (fun s : Str => s.cps.toList) z
    have h48 : ("0" : Str).cps.toList = [48] := by decide +kernel
    simp [h48] at this
    exact this
  · rintro rfl
    decide +kernel
theorem head0 {w : Str} (h : 1 ≤ w.length) : ∃ c, w.cps.toList.head? = some c ∧ atI w.cps.toList 0 = some c := by
  have hlen : w.cps.toList.length = w.length := by simp [Str.length]
  cases e : w.cps.toList with
  | nil => rw [e] at hlen; simp at hlen; omega
  | cons c l => exact ⟨c, rfl, atI_nat (j := 0) (by simp)⟩
def f_number : DSp := dsp1 fun a Q => ∃ w : Str, a = .str w ∧ w.length ≤ 100000 ∧ PyData.strOk w = true ∧ Q (match numW w with | none => .non | some n => .int n)
-- _law_number(_law_word): 0 _law_word 1 _law_sign
@[reducible] def b_number : DTS :=
  (dSeq (dIfS (dOr (dNot (dB (dChain rdLe rdLe (dC (.int 1)) (dCB rdLen (dCons (dVar 0) dNil)) (dC (.int 3))))) (dB (dOp rdNe (dLc (diSq (dVar 0)) (dgName 1) (dB (dOp (rdIn true) (dVar 1) (dC (.str ("0123456789" : Str))))) (dVar 1) [1]) (dLst dNil)))) (dRet (dC .non)) dNext)
    (dRet (dIf (dAnd (dB (dOp rdGt (dCB rdLen (dCons (dVar 0) dNil)) (dC (.int 1)))) (dB (dOp rdEq (dOp rdIx (dVar 0) (dC (.int 0))) (dC (.str ("0" : Str)))))) (dC .non) (dCB rdIntC (dCons (dVar 0) dNil)))))
theorem rd_number : Rd 2 f_number b_number := by
  rintro XX ds Q ⟨_, rfl, w, rfl, hl, hok, hq⟩
  simp [b_number, ini]
  have bad : numC w = false → Q .non := fun h => by rw [numW_none.mpr h] at hq; exact hq
  have bad' : ¬ ((1 ≤ w.length ∧ w.length ≤ 3) ∧ (∀ c ∈ w.cps.toList, c ∈ digitsL) ∧ ¬ (w.cps.toList.head? = some 48 ∧ 1 < w.length)) → Q .non := fun h => bad (by
    cases e : numC w with
    | false => rfl
    | true => exact absurd (numC_iff.mp e) h)
  refine ⟨hl, ?_⟩
  by_cases h1 : 1 ≤ w.length
  · refine .inr ⟨by omega, ?_⟩
    by_cases h3 : w.length ≤ 3
    · refine .inr ⟨by omega, ?_⟩
      refine dig_lc hl hok rfl (by simp) (fun Qi h => by simpa using h) ?_
      refine dig_q hok (fun hd => ⟨hl, ?_⟩) fun hd => bad' fun z => hd z.2.1
      obtain ⟨c, hc, hat⟩ := head0 h1
      have hcm : c ∈ w.cps.toList := List.mem_of_mem_head? hc
      have fin : numC w = true → rdIntC Kd.sf [D.str w] fun k d => out k d ∧ Q d := fun e => by
        obtain ⟨n, hn⟩ := numC_some e
        unfold numW at hq
        rw [if_pos e, hn] at hq
        exact ⟨n, hn, by omega, trivial, hq⟩
      by_cases h1' : w.length ≤ 1
      · exact .inl ⟨by omega, fin (numC_iff.mpr ⟨⟨h1, h3⟩, hd, fun z => by omega⟩)⟩
      · refine .inr ⟨by omega, hl, c, hat, str1 c (strOk_mem hok hcm), by decide +kernel, ?_⟩
        by_cases e : c = 48
        · exact .inr ⟨one0.mpr e, bad' fun z => z.2.2 ⟨by rw [hc, e], by omega⟩⟩
        · exact .inl ⟨fun z => e (one0.mp z), fin (numC_iff.mpr ⟨⟨h1, h3⟩, hd, fun z => e (by rw [hc] at z; exact Option.some.inj z.1)⟩)⟩
    · exact .inl ⟨by omega, bad' fun z => h3 z.1.2⟩
  · exact .inl ⟨by omega, bad' fun z => h1 z.1.1⟩
def f_number_of2 : DSp := fun XX ds Q => ∃ (w : Str) (k : Int), ds = [.str w, .int k] ∧ w.length ≤ 100000 ∧ PyData.strOk w = true ∧ (∀ n, numW w = some n → Q (.int n)) ∧ (numW w = none → XX (.text k))
theorem len_number_of2 {XX : Exn → Prop} {ds : List D} {Q : D → Prop} (h : f_number_of2 XX ds Q) : ds.length = 2 := by obtain ⟨_, _, rfl, _⟩ := h; rfl
-- number_of(word, row): 0 word 1 row 2 sign
@[reducible] def b_number_of2 : DTS :=
  (dSeq (dIfS (dOr (dNot (dB (dChain rdLe rdLe (dC (.int 1)) (dCB rdLen (dCons (dVar 0) dNil)) (dC (.int 3))))) (dB (dOp rdNe (dLc (diSq (dVar 0)) (dgName 2) (dB (dOp (rdIn true) (dVar 2) (dC (.str ("0123456789" : Str))))) (dVar 2) [2]) (dLst dNil)))) (dRaise (rdPlace .text) (dCons (dVar 1) dNil)) dNext)
    (dSeq (dIfS (dAnd (dB (dOp rdEq (dOp rdIx (dVar 0) (dC (.int 0))) (dC (.str ("0" : Str))))) (dB (dOp rdNe (dVar 0) (dC (.str ("0" : Str)))))) (dRaise (rdPlace .text) (dCons (dVar 1) dNil)) dNext)
    (dRet (dCB rdIntC (dCons (dVar 0) dNil)))))
theorem zero_w {w : Str} (h : w.cps.toList.head? = some 48) : w = ("0" : Str) ↔ w.length ≤ 1 := by
  have hlen : w.cps.toList.length = w.length := by simp [Str.length]
  constructor
  · rintro rfl
    decide +kernel
  · intro hl
    cases e : w.cps.toList with
    | nil => rw [e] at h; cases h
    | cons c l =>
      rw [e] at h hlen
      cases h
      have hl0 : l = [] := List.length_eq_zero_iff.mp (by simp at hlen; omega)
      subst hl0
      refine TL.ext_tl ?_
      have h48 : TL.tl ("0" : Str) = [48] := by decide +kernel
      rw [h48]
      exact e
theorem rd_number_of2 : Rd 3 f_number_of2 b_number_of2 := by
  rintro XX ds Q ⟨w, k, rfl, hl, hok, hq, hx⟩
  simp [b_number_of2, ini]
  have bad' : ¬ ((1 ≤ w.length ∧ w.length ≤ 3) ∧ (∀ c ∈ w.cps.toList, c ∈ digitsL) ∧ ¬ (w.cps.toList.head? = some 48 ∧ 1 < w.length)) → XX (.text k) := fun h => hx (numW_none.mpr (by
    cases e : numC w with
    | false => rfl
    | true => exact absurd (numC_iff.mp e) h))
  refine ⟨hl, ?_⟩
  by_cases h1 : 1 ≤ w.length
  · refine .inr ⟨by omega, ?_⟩
    by_cases h3 : w.length ≤ 3
    · refine .inr ⟨by omega, ?_⟩
      refine dig_lc hl hok rfl (by simp) (fun Qi h => by simpa using h) ?_
      refine dig_q hok (fun hd => ⟨hl, ?_⟩) fun hd => bad' fun z => hd z.2.1
      obtain ⟨c, hc, hat⟩ := head0 h1
      have hcm : c ∈ w.cps.toList := List.mem_of_mem_head? hc
      have fin : numC w = true → rdIntC Kd.sf [D.str w] fun k d => out k d ∧ Q d := fun e => by
        obtain ⟨n, hn⟩ := numC_some e
        exact ⟨n, hn, by omega, trivial, hq n (by unfold numW; rw [if_pos e, hn])⟩
      refine ⟨c, hat, str1 c (strOk_mem hok hcm), by decide +kernel, ?_⟩
      by_cases e : c = 48
      · refine .inr ⟨one0.mpr e, hok, by decide +kernel, ?_⟩
        have hc48 : w.cps.toList.head? = some 48 := by rw [hc, e]
        by_cases h0 : w.length ≤ 1
        · exact .inl ⟨(zero_w hc48).mpr h0, fin (numC_iff.mpr ⟨⟨h1, h3⟩, hd, fun z => by omega⟩)⟩
        · exact .inr ⟨fun z => h0 ((zero_w hc48).mp z), bad' fun z => z.2.2 ⟨hc48, by omega⟩⟩
      · exact .inl ⟨fun z => e (one0.mp z), fin (numC_iff.mpr ⟨⟨h1, h3⟩, hd, fun z => e (by rw [hc] at z; exact Option.some.inj z.1)⟩)⟩
    · exact .inl ⟨by omega, bad' fun z => h3 z.1.2⟩
  · exact .inl ⟨by omega, bad' fun z => h1 z.1.1⟩
def f_read2 : DSp := fun XX ds Q => ∃ t : Str, ds = [.str t] ∧ t.length ≤ 50000 ∧ PyData.strOk t = true ∧ (∀ k, resL (rowsL t) = .text k → XX (.text k)) ∧ (∀ w n, resL (rowsL t) = .case w n → XX (.case w n)) ∧ ∀ fs, resL (rowsL t) = .ok fs → Q (.obj (fs.map eF))
theorem len_read2 {XX : Exn → Prop} {ds : List D} {Q : D → Prop} (h : f_read2 XX ds Q) : ds.length = 1 := by obtain ⟨_, rfl, _⟩ := h; rfl
-- read(text): 0 text 1 faces 2 rows 3 row 4 words 5 numbers 6 word
@[reducible] def b_read2 : DTS :=
  (dSeq (dAsgO 1 (dLst dNil))
    (dSeq (dAsg (dIf (dB (dOp rdNe (dVar 0) (dC (.str ("" : Str))))) (dSplit (dVar 0) (dC (.str ("\n" : Str)))) (dLst dNil)) (dgName 2))
    (dSeq (dFor (diRg1 (dCons (dCB rdLen (dCons (dVar 2) dNil)) dNil)) (dgName 3) (dSeq (dAsg (dSplit (dOp rdIx (dVar 2) (dVar 3)) (dC (.str (" " : Str)))) (dgName 4))
    (dSeq (dIfS (dOr (dB (dOp rdLt (dCB rdLen (dCons (dVar 4) dNil)) (dC (.int 3)))) (dOr (dB (dOp rdNe (dOp rdIx (dVar 4) (dC (.int 0))) (dC (.str ("face" : Str))))) (dNot (dB (dCall f_is_name (dCons (dOp rdIx (dVar 4) (dC (.int 1))) dNil)))))) (dRaise (rdPlace .text) (dCons (dVar 3) dNil)) dNext)
    (dSeq (dAsg (dLc (diSq (dSl (dVar 4) (dPt (dC (.int 2))) dNo)) (dgName 6) dYes (dCallX f_number_of2 (dCons (dVar 6) (dCons (dVar 3) dNil))) [6]) (dgName 5))
    (dApp 1 (dTup (dCons (dOp rdIx (dVar 4) (dC (.int 1))) (dCons (dOp rdIx (dVar 5) (dC (.int 0))) (dCons (dCB rdTuple (dCons (dSl (dVar 5) (dPt (dC (.int 1))) dNo) dNil)) dNil)))))))))
    (dRet (dMakeX f_Case2 (dCons (dVar 1) dNil))))))
def b2body : DTS := (dSeq (dAsg (dSplit (dOp rdIx (dVar 2) (dVar 3)) (dC (.str (" " : Str)))) (dgName 4))
    (dSeq (dIfS (dOr (dB (dOp rdLt (dCB rdLen (dCons (dVar 4) dNil)) (dC (.int 3)))) (dOr (dB (dOp rdNe (dOp rdIx (dVar 4) (dC (.int 0))) (dC (.str ("face" : Str))))) (dNot (dB (dCall f_is_name (dCons (dOp rdIx (dVar 4) (dC (.int 1))) dNil)))))) (dRaise (rdPlace .text) (dCons (dVar 3) dNil)) dNext)
    (dSeq (dAsg (dLc (diSq (dSl (dVar 4) (dPt (dC (.int 2))) dNo)) (dgName 6) dYes (dCallX f_number_of2 (dCons (dVar 6) (dCons (dVar 3) dNil))) [6]) (dgName 5))
    (dApp 1 (dTup (dCons (dOp rdIx (dVar 4) (dC (.int 1))) (dCons (dOp rdIx (dVar 5) (dC (.int 0))) (dCons (dCB rdTuple (dCons (dSl (dVar 5) (dPt (dC (.int 1))) dNo) dNil)) dNil))))))))
def b2loop : DTS := (dFor (diRg1 (dCons (dCB rdLen (dCons (dVar 2) dNil)) dNil)) (dgName 3) b2body)
theorem read2_eq : b_read2 = (dSeq (dAsgO 1 (dLst dNil))
    (dSeq (dAsg (dIf (dB (dOp rdNe (dVar 0) (dC (.str ("" : Str))))) (dSplit (dVar 0) (dC (.str ("\n" : Str)))) (dLst dNil)) (dgName 2))
    (dSeq b2loop
    (dRet (dMakeX f_Case2 (dCons (dVar 1) dNil)))))) := rfl
def sR (t : Str) (rows : List Str) (done : List Face) (a3 a4 a5 : Slot) : Rho := [.v false (.str t), .own true (done.map eF), .v true (.lst (rows.map .str)), a3, a4, a5, .e]
theorem rd_r2body {XX : Exn → Prop} {DD : DEnds} {t : Str} {rows : List Str} {done : List Face} {k : Nat} (hk : k < rows.length) (hr : rows[k].length ≤ 50000) (hro : PyData.strOk rows[k] = true) (hd : done.length < 100000)
    (bad : rowOk (wordsL rows[k]) = false → XX (.text (k : Int))) (hnx : rowOk (wordsL rows[k]) = true → ∀ a4 a5, DD.nx (sR t rows (done ++ [rowFc (wordsL rows[k])]) (.v true (.int (k : Int))) a4 a5)) :
    b2body XX DD (sR t rows done (.v true (.int (k : Int))) .e .e) := by
  unfold b2body sR
  have hat : atI (rows.map D.str) (k : Int) = some (.str rows[k]) := by
    rw [atI_map, atI_nat hk]
    rfl
  simp [hat]
  have hs := split_bl rows[k]
  refine ⟨by decide +kernel, by omega, ?_⟩
  show _
  have hw : Txt.split rows[k] (" " : Str) = wordsL rows[k] := rfl
  rw [hw] at hs ⊢
  have hsl := hs.len
  generalize wordsL rows[k] = ws at hs hsl bad hnx
  by_cases h3 : ws.length < 3
  · refine .inr ⟨by omega, bad ?_⟩
    unfold rowOk
    rw [decide_eq_false (by omega)]
    rfl
  obtain ⟨w0, w1, w2, r, rfl⟩ : ∃ w0 w1 w2 r, ws = w0 :: w1 :: w2 :: r := by
    match ws, h3 with
    | a :: b :: c :: l, _ => exact ⟨a, b, c, l, rfl⟩
    | [], h => simp at h
    | [a], h => simp at h
    | [a, b], h => simp at h
  have ok := hs.ok hro
  have wl : ∀ w ∈ w0 :: w1 :: w2 :: r, w.length ≤ 50000 := fun w hw => Nat.le_trans (hs.wl hw) hr
  have rowe : rowOk (w0 :: w1 :: w2 :: r) = (decide (w0 = ("face" : Str)) && nameOk w1 && ((w2 :: r).all fun w => (numW w).isSome)) := by
    unfold rowOk
    simp
  have fce : rowFc (w0 :: w1 :: w2 :: r) = ⟨w1, numV w2, r.map numV⟩ := rfl
  rw [rowe] at bad hnx
  rw [fce] at hnx
  clear rowe fce h3
  have a0 : atI ((w0 :: w1 :: w2 :: r).map D.str) 0 = some (.str w0) := atI_nat (j := 0) (l := (w0 :: w1 :: w2 :: r).map D.str) (by simp)
  have a1 : atI ((w0 :: w1 :: w2 :: r).map D.str) 1 = some (.str w1) := atI_nat (j := 1) (l := (w0 :: w1 :: w2 :: r).map D.str) (by simp)
  have hcut : cutD ((w0 :: w1 :: w2 :: r).map D.str) (some 2) none = (w2 :: r).map D.str := by
    have := cutD_from (l := (w0 :: w1 :: w2 :: r).map D.str) (a := 2)
    rw [show (2 : Int) = ((2 : Nat) : Int) from rfl, this]
    rfl
  have hwl : (w0 :: w1 :: w2 :: r).length = r.length + 3 := rfl
  have ok0 := ok w0 (by simp)
  have ok1 := ok w1 (by simp)
  have l1 := wl w1 (by simp)
  have okr : ∀ w ∈ w2 :: r, PyData.strOk w = true ∧ w.length ≤ 50000 := fun w hw => ⟨ok w (List.mem_cons_of_mem _ (List.mem_cons_of_mem _ hw)), wl w (List.mem_cons_of_mem _ (List.mem_cons_of_mem _ hw))⟩
  clear ok wl hs
  rw [hwl] at hsl ⊢
  generalize (w0 :: w1 :: w2 :: r).map D.str = W at a0 a1 hcut
  refine .inl ⟨by omega, _, a0, by simpa using ok0, by decide +kernel, ?_⟩
  by_cases hf : w0 = ("face" : Str)
  · refine .inl ⟨by simp [hf], _, a1, _, rfl, w1, rfl, by omega, ok1, ?_⟩
    cases hN : nameOk w1 with
    | false => exact .inl ⟨rfl, bad (by rw [hN]; simp)⟩
    | true =>
      refine .inr ⟨rfl, ?_⟩
      refine lc_inv (w2 :: r) .str .fr (fun p acc => acc = p.map (fun w => .int (numV w)) ∧ ∀ w ∈ p, (numW w).isSome = true) (k := .fr) rfl (fun Qi h => ?_) (by simp; omega) rfl (by decide) ⟨rfl, fun w h => by cases h⟩ (fun p w q acc e ⟨h1, h2⟩ => ?_) fun acc ⟨h1, h2⟩ => ?_
      · simp
        rw [hcut, if_pos (flats_map (fun _ => rfl) _)]
        exact h
      · simp [wipeR]
        obtain ⟨o1, o2⟩ := okr w (by rw [e]; simp)
        refine ⟨w, (k : Int), rfl, by omega, o1, fun n hn => ⟨kf, by rw [h1]; simp [numV, hn], fun x hx => ?_⟩, fun hn => bad ?_⟩
        · rcases hx with hx | hx
          · exact h2 x hx
          · rw [hx, hn]; rfl
        · have hall : ((w2 :: r).all fun w => (numW w).isSome) = false := by
            rw [List.all_eq_false]
            exact ⟨w, by rw [e]; simp, by rw [hn]; simp⟩
          rw [hall]; simp
      · subst h1
        have hall : ((w2 :: r).all fun w => (numW w).isSome) = true := List.all_eq_true.mpr h2
        have fin := hnx (by rw [hN, hall, decide_eq_true hf]; rfl)
        have b0 : atI ((w2 :: r).map fun w => D.int (numV w)) 0 = some (.int (numV w2)) := atI_nat (j := 0) (l := (w2 :: r).map fun w => D.int (numV w)) (by simp)
        have b1 : cutD ((w2 :: r).map fun w => D.int (numV w)) (some 1) none = (r.map numV).map D.int := by
          have := cutD_from (l := (w2 :: r).map fun w => D.int (numV w)) (a := 1)
          rw [show (1 : Int) = ((1 : Nat) : Int) from rfl, this]
          simp
        generalize ((w2 :: r).map fun w => D.int (numV w)) = L at b0 b1
        refine .inr ⟨rfl, hd, _, a1, ?_⟩
        have hfl : D.flats (r.map (D.int ∘ numV)) = true := flats_map (fun _ => rfl) _
        have := fin (.v true (.lst W)) (.v true (.lst L))
        unfold sR at this
        simp [b0, b1, hfl]
        simpa [eF, tints] using this
  · exact .inr ⟨by simp [hf], bad (by rw [decide_eq_false hf]; rfl)⟩
theorem FacesG_rows {t : Str} (hl : t.length ≤ 50000) (ht : PyData.strOk t = true) (hb : ∀ j, j < (rowsL t).length → badRow (rowsL t) j = false) : FacesG 60000 ((rowsL t).map fun r => rowFc (wordsL r)) := by
  obtain ⟨h1, h2⟩ := rows_ok ht
  refine ⟨by rw [List.length_map]; omega, fun f hf => ?_⟩
  obtain ⟨r, hr, rfl⟩ := List.mem_map.mp hf
  obtain ⟨j, hj, rfl⟩ := List.mem_iff_getElem.mp hr
  have h3 := h2 _ hr
  have h4 := hb j hj
  rw [badRow_at hj] at h4
  exact rowFc_ok (n := 0) h3.2 (by omega) (by simpa using h4)
theorem rd_read2 : Rd 7 f_read2 b_read2 := by
  rintro XX ds Q ⟨t, rfl, hl, ht, hx1, hx2, hq⟩
  obtain ⟨h1, h2⟩ := rows_ok ht
  have key : b2loop XX { nx := dRet (dMakeX f_Case2 (dCons (dVar 1) dNil)) XX { nx := fun x => Q D.non, rt := Q }, rt := Q } [.v false (.str t), .own true [], .v true (.lst ((rowsL t).map .str)), .e, .e, .e, .e] := by
    unfold b2loop
    refine for_rangeS 0 (rowsL t).length (fun done : List Face => sR t (rowsL t) done .e .e .e) (fun k done => done = ((rowsL t).take k).map (fun r => rowFc (wordsL r)) ∧ ∀ j, j < k → badRow (rowsL t) j = false) [] (fun Qi h => by simp; exact ⟨by omega, h⟩) rfl ⟨rfl, fun j hj => by omega⟩ (fun k done hk h => ?_) fun done h => ?_
    · obtain ⟨rfl, hb⟩ := h
      simp only [Int.zero_add]
      have hm := h2 _ (List.getElem_mem hk)
      show b2body _ _ _
      refine rd_r2body (done := ((rowsL t).take k).map fun r => rowFc (wordsL r)) hk (by omega) hm.2 (by rw [List.length_map, List.length_take]; omega) (fun h => hx1 k (res_text hk hb (by rw [badRow_at hk, h]; rfl))) fun h a4 a5 => ?_
      refine ⟨((rowsL t).take k).map (fun r => rowFc (wordsL r)) ++ [rowFc (wordsL (rowsL t)[k])], ?_, ?_, fun j hj => ?_⟩
      · unfold sR
        repeat (first | exact Fgt.refl _ | apply Fgt.keep | apply Fgt.drop)
      · rw [← List.take_append_getElem hk, List.map_append]
        rfl
      · by_cases e : j = k
        · subst e; rw [badRow_at hk, h]; rfl
        · exact hb j (by omega)
    · obtain ⟨rfl, hb⟩ := h
      rw [List.take_length]
      have hrest := res_rest hb
      unfold sR
      simp
      refine ⟨(rowsL t).map fun r => rowFc (wordsL r), by simp, FacesG_rows hl ht hb, fun hw => ?_, fun w n hw => ?_⟩
      · rw [hw] at hrest
        exact hq _ hrest
      · rw [hw] at hrest
        exact hx2 w n hrest
  rw [read2_eq]
  simp [ini]
  refine ⟨ht, by decide +kernel, ?_⟩
  unfold rowsL at key
  by_cases h0 : t = ("" : Str)
  · rw [if_pos h0] at key
    exact .inl ⟨h0, key⟩
  · rw [if_neg h0] at key
    exact .inr ⟨h0, by decide +kernel, by omega, key⟩
def f_due2 : DSp := dsp1 fun a Q => ∃ t : Str, a = .str t ∧ t.length ≤ 50000 ∧ PyData.strOk t = true ∧ Q (resD (resL (rowsL t)))
-- _law_due(_law_text): 0 _law_text 1 _law_faces_here 2 _law_rows 3 _law_k 4 _law_words 5 _law_numbers 6 _law_name 7 _law_letters 8 _law_wrong_here 9 _law_word 10 _law_sign
@[reducible] def b_due2 : DTS :=
  (dSeq (dAsgO 1 (dLst dNil))
    (dSeq (dAsg (dIf (dB (dOp rdNe (dVar 0) (dC (.str ("" : Str))))) (dSplit (dVar 0) (dC (.str ("\n" : Str)))) (dLst dNil)) (dgName 2))
    (dSeq (dFor (diRg1 (dCons (dCB rdLen (dCons (dVar 2) dNil)) dNil)) (dgName 3) (dSeq (dAsg (dSplit (dOp rdIx (dVar 2) (dVar 3)) (dC (.str (" " : Str)))) (dgName 4))
    (dSeq (dAsg (dLc (diSq (dSl (dVar 4) (dPt (dC (.int 2))) dNo)) (dgName 9) dYes (dCall f_number (dCons (dVar 9) dNil)) [9]) (dgName 5))
    (dSeq (dAsg (dOp rdIx (dOp rdAdd (dVar 4) (dLst (dCons (dC (.str ("" : Str))) dNil))) (dC (.int 1))) (dgName 6))
    (dSeq (dAsg (dLc (diSq (dVar 6)) (dgName 10) (dB (dOp (rdIn false) (dVar 10) (dC (.str ("abcdefghijklmnopqrstuvwxyz" : Str))))) (dVar 10) [10]) (dgName 7))
    (dSeq (dIfS (dOr (dB (dOp rdNe (dOp rdIx (dVar 4) (dC (.int 0))) (dC (.str ("face" : Str))))) (dOr (dB (dOp rdEq (dVar 5) (dLst dNil))) (dOr (dB (dOp (rdIn false) (dC .non) (dVar 5))) (dOr (dNot (dB (dChain rdLt rdLt (dC (.int 0)) (dCB rdLen (dCons (dVar 6) dNil)) (dC (.int 9))))) (dB (dOp rdNe (dCB rdLen (dCons (dVar 7) dNil)) (dCB rdLen (dCons (dVar 6) dNil)))))))) (dRet (dTup (dCons (dC (.str ("text" : Str))) (dCons (dVar 3) dNil)))) dNext)
    (dApp 1 (dTup (dCons (dVar 6) (dCons (dOp rdIx (dVar 5) (dC (.int 0))) (dCons (dCB rdTuple (dCons (dSl (dVar 5) (dPt (dC (.int 1))) dNo) dNil)) dNil)))))))))))
    (dSeq (dAsg (dCall f_wrong (dCons (dVar 1) dNil)) (dgName 8))
    (dRel 1 (dRet (dIf (dB (dOp rdIs (dVar 8) (dC .non))) (dVar 1) (dOp rdAdd (dTup (dCons (dC (.str ("case" : Str))) dNil)) (dVar 8)))))))))
def d2R3 : DTS := (dSeq (dIfS (dOr (dB (dOp rdNe (dOp rdIx (dVar 4) (dC (.int 0))) (dC (.str ("face" : Str))))) (dOr (dB (dOp rdEq (dVar 5) (dLst dNil))) (dOr (dB (dOp (rdIn false) (dC .non) (dVar 5))) (dOr (dNot (dB (dChain rdLt rdLt (dC (.int 0)) (dCB rdLen (dCons (dVar 6) dNil)) (dC (.int 9))))) (dB (dOp rdNe (dCB rdLen (dCons (dVar 7) dNil)) (dCB rdLen (dCons (dVar 6) dNil)))))))) (dRet (dTup (dCons (dC (.str ("text" : Str))) (dCons (dVar 3) dNil)))) dNext)
    (dApp 1 (dTup (dCons (dVar 6) (dCons (dOp rdIx (dVar 5) (dC (.int 0))) (dCons (dCB rdTuple (dCons (dSl (dVar 5) (dPt (dC (.int 1))) dNo) dNil)) dNil))))))
def d2R4 : DTS := (dSeq (dAsg (dOp rdIx (dOp rdAdd (dVar 4) (dLst (dCons (dC (.str ("" : Str))) dNil))) (dC (.int 1))) (dgName 6))
    (dSeq (dAsg (dLc (diSq (dVar 6)) (dgName 10) (dB (dOp (rdIn false) (dVar 10) (dC (.str ("abcdefghijklmnopqrstuvwxyz" : Str))))) (dVar 10) [10]) (dgName 7))
    d2R3))
def d2body : DTS := (dSeq (dAsg (dSplit (dOp rdIx (dVar 2) (dVar 3)) (dC (.str (" " : Str)))) (dgName 4))
    (dSeq (dAsg (dLc (diSq (dSl (dVar 4) (dPt (dC (.int 2))) dNo)) (dgName 9) dYes (dCall f_number (dCons (dVar 9) dNil)) [9]) (dgName 5))
    d2R4))
def d2loop : DTS := (dFor (diRg1 (dCons (dCB rdLen (dCons (dVar 2) dNil)) dNil)) (dgName 3) d2body)
def d2end : DTS := (dSeq (dAsg (dCall f_wrong (dCons (dVar 1) dNil)) (dgName 8))
    (dRel 1 (dRet (dIf (dB (dOp rdIs (dVar 8) (dC .non))) (dVar 1) (dOp rdAdd (dTup (dCons (dC (.str ("case" : Str))) dNil)) (dVar 8))))))
theorem due2_eq : b_due2 = (dSeq (dAsgO 1 (dLst dNil))
    (dSeq (dAsg (dIf (dB (dOp rdNe (dVar 0) (dC (.str ("" : Str))))) (dSplit (dVar 0) (dC (.str ("\n" : Str)))) (dLst dNil)) (dgName 2))
    (dSeq d2loop
    d2end))) := rfl
def eI : Option Int → D
  | none => .non
  | some n => .int n
def sD (t : Str) (rows : List Str) (done : List Face) (a3 a4 a5 a6 a7 : Slot) : Rho := [.v false (.str t), .own true (done.map eF), .v true (.lst (rows.map .str)), a3, a4, a5, a6, a7, .e, .e, .e]
def sD3 (t : Str) (rows : List Str) (done : List Face) (k : Nat) (ws : List Str) (a6 a7 : Slot) : Rho := [.v false (.str t), .own true (done.map eF), .v true (.lst (rows.map .str)), .v true (.int (k : Int)), .v true (.lst (ws.map .str)), .v true (.lst ((ws.drop 2).map fun w => eI (numW w))), a6, a7, .e, .e, .e]
theorem any_none {l : List Str} : ((l.map fun w => eI (numW w)).any fun y => dEqS y .non) = !(l.all fun w => (numW w).isSome) := by
  induction l with
  | nil => rfl
  | cons a l ih =>
    simp only [List.map_cons, List.any_cons, List.all_cons, ih]
    cases e : numW a <;> simp [eI]
theorem num_ints {l : List Str} (h : (l.all fun w => (numW w).isSome) = true) : (l.map fun w => eI (numW w)) = (l.map numV).map D.int := by
  rw [List.map_map]
  refine List.map_congr_left fun w hw => ?_
  have := List.all_eq_true.mp h w hw
  obtain ⟨n, hn⟩ := Option.isSome_iff_exists.mp this
  simp [numV, hn, eI]
theorem rd_d2R3 {XX : Exn → Prop} {DD : DEnds} {t : Str} {rows : List Str} {done : List Face} {k : Nat} {ws : List Str} (h0 : ws ≠ []) (hl : ws.length ≤ 50001) (ok : ∀ w ∈ ws, PyData.strOk w = true) (wl : ∀ w ∈ ws, w.length ≤ 50000) (hd : done.length < 100000)
    (bad : rowOk ws = false → DD.rt (.tup [.str ("text" : Str), .int (k : Int)])) (hnx : rowOk ws = true → ∀ a4 a5 a6 a7, DD.nx (sD t rows (done ++ [rowFc ws]) (.v true (.int (k : Int))) a4 a5 a6 a7)) :
    d2R3 XX DD (sD3 t rows done k ws (.v true (.str (ws.getD 1 ("" : Str)))) (.v true (.lst (((ws.getD 1 ("" : Str)).cps.toList.filter fun c => letters.contains c).map sgD)))) := by
  obtain ⟨w0, r, rfl⟩ : ∃ w0 r, ws = w0 :: r := by
    cases ws with
    | nil => exact absurd rfl h0
    | cons a l => exact ⟨a, l, rfl⟩
  have rowe : rowOk (w0 :: r) = (decide (w0 = ("face" : Str)) && decide (r.drop 1 ≠ []) && nameOk ((w0 :: r).getD 1 ("" : Str)) && ((r.drop 1).all fun w => (numW w).isSome)) := by
    unfold rowOk
    have e1 : decide (3 ≤ (w0 :: r).length) = decide (r.drop 1 ≠ []) := by
      rw [Bool.eq_iff_iff]
      cases r with
      | nil => simp
      | cons a l => cases l <;> simp
    rw [e1]
    simp [Bool.and_comm, Bool.and_left_comm]
  have a0 : atI ((w0 :: r).map D.str) 0 = some (.str w0) := atI_nat (j := 0) (l := (w0 :: r).map D.str) (by simp)
  have ok0 := ok w0 (by simp)
  have hdr : (w0 :: r).drop 2 = r.drop 1 := rfl
  unfold d2R3 sD3
  rw [hdr]
  generalize hnm : (w0 :: r).getD 1 ("" : Str) = nm at rowe
  have hnl : nm.length ≤ 50000 := by
    rw [← hnm, List.getD_eq_getElem?_getD]
    cases e : (w0 :: r)[1]? with
    | none => decide +kernel
    | some w => exact wl w (List.mem_of_getElem? e)
  have hlen : nm.cps.toList.length = nm.length := by simp [Str.length]
  have fce : rowFc (w0 :: r) = ⟨nm, ((r.drop 1).map numV).headD 0, ((r.drop 1).map numV).tail⟩ := by rw [← hnm]; rfl
  rw [rowe] at bad hnx
  rw [fce] at hnx
  have hll : (r.drop 1).length ≤ 50000 := by simp at hl ⊢; omega
  clear rowe fce hnm wl ok hdr
  generalize (w0 :: r).map D.str = W at a0
  generalize r.drop 1 = q at bad hnx hll
  have hcm : D.cmps 59 (q.map fun w => eI (numW w)) = true := cmps_map (fun w => by cases numW w <;> rfl) q
  have hsc : ∀ x ∈ q.map (fun w => eI (numW w)), x.scl = true := fun x hx => by
    obtain ⟨w, _, rfl⟩ := List.mem_map.mp hx
    cases numW w <;> rfl
  simp [a0]
  refine ⟨ok0, by decide +kernel, ?_⟩
  by_cases hf : w0 = ("face" : Str)
  · refine .inl ⟨hf, ?_⟩
    refine ⟨hcm, ?_⟩
    by_cases hq0 : q = []
    · exact .inr ⟨hq0, bad (by rw [hq0]; simp)⟩
    refine .inl ⟨hq0, fun w hw => by cases numW w <;> rfl, ?_⟩
    have han := any_none (l := q)
    cases hall : q.all fun w => (numW w).isSome with
    | false =>
      rw [hall] at han
      obtain ⟨x, hx, hxn⟩ := List.any_eq_true.mp han
      obtain ⟨w, hw, rfl⟩ := List.mem_map.mp hx
      exact .inr ⟨⟨w, hw, hxn⟩, bad (by rw [hall]; simp)⟩
    | true =>
    rw [hall] at han hnx bad
    have hno : ∀ w ∈ q, dEqS (eI (numW w)) .non = false := fun w hw => by
      cases e : dEqS (eI (numW w)) .non with
      | false => rfl
      | true =>
        have : (q.map fun w => eI (numW w)).any (fun y => dEqS y .non) = true := List.any_eq_true.mpr ⟨_, List.mem_map.mpr ⟨w, hw, rfl⟩, e⟩
        rw [this] at han; cases han
    refine .inl ⟨hno, by omega, ?_⟩
    have hN := num_ints hall
    rw [hN]
    clear hN hall hno han hsc hcm
    rw [decide_eq_true hf, decide_eq_true hq0] at bad hnx
    have hflt : (nm.cps.toList.filter fun c => decide (c ∈ letters)).length = nm.length ↔ ∀ c ∈ nm.cps.toList, c ∈ letters := by
      rw [← hlen, List.length_filter_eq_length_iff]
      simp
    have hnk : nameOk nm = true ↔ (1 ≤ nm.length ∧ nm.length ≤ 8) ∧ ∀ c ∈ nm.cps.toList, c ∈ letters := by
      unfold nameOk
      simp only [Bool.and_eq_true, decide_eq_true_eq, List.all_eq_true, List.contains_iff_mem]
    rw [← hflt] at hnk
    have X : ¬ ((1 ≤ nm.length ∧ nm.length ≤ 8) ∧ (nm.cps.toList.filter fun c => decide (c ∈ letters)).length = nm.length) → DD.rt (.tup [.str ("text" : Str), .int (k : Int)]) := fun h => bad (by
      cases e : nameOk nm with
      | false => rfl
      | true => exact absurd (hnk.mp e) h)
    by_cases z0 : nm.length = 0
    · exact .inl ⟨z0, X fun z => by omega⟩
    · refine .inr ⟨by omega, ?_⟩
      by_cases z9 : 9 ≤ nm.length
      · exact .inl ⟨by omega, X fun z => by omega⟩
      · refine .inr ⟨by omega, by omega, ?_⟩
        by_cases zl : (nm.cps.toList.filter fun c => decide (c ∈ letters)).length = nm.length
        · refine .inl ⟨by omega, hd, ?_⟩
          have fin := hnx (by rw [hnk.mpr ⟨⟨by omega, by omega⟩, zl⟩]; rfl)
          obtain ⟨w2, q, rfl⟩ : ∃ a l, q = a :: l := List.exists_cons_of_ne_nil hq0
          have hfl : D.flats (((w2 :: q).map numV).map D.int).tail = true := flats_map (fun _ => rfl) (q.map numV)
          rw [if_pos hfl]
          refine ⟨.int (numV w2), atI_nat (j := 0) (l := ((w2 :: q).map numV).map D.int) (by simp), .inr ⟨rfl, ?_⟩⟩
          have := fin (.v true (.lst W)) (.v true (.lst (((w2 :: q).map numV).map D.int))) (.v true (.str nm)) (.v true (.lst ((nm.cps.toList.filter fun c => decide (c ∈ letters)).map sgD)))
          unfold sD at this
          simpa [eF, tints] using this
        · exact .inr ⟨by omega, X fun z => zl z.2⟩
  · exact .inr ⟨hf, bad (by rw [decide_eq_false hf]; rfl)⟩
theorem rd_d2body {XX : Exn → Prop} {DD : DEnds} {t : Str} {rows : List Str} {done : List Face} {k : Nat} (hk : k < rows.length) (hr : rows[k].length ≤ 50000) (hro : PyData.strOk rows[k] = true) (hd : done.length < 100000)
    (bad : rowOk (wordsL rows[k]) = false → DD.rt (.tup [.str ("text" : Str), .int (k : Int)])) (hnx : rowOk (wordsL rows[k]) = true → ∀ a4 a5 a6 a7, DD.nx (sD t rows (done ++ [rowFc (wordsL rows[k])]) (.v true (.int (k : Int))) a4 a5 a6 a7)) :
    d2body XX DD (sD t rows done (.v true (.int (k : Int))) .e .e .e .e) := by
  unfold d2body sD
  have hat : atI (rows.map D.str) (k : Int) = some (.str rows[k]) := by
    rw [atI_map, atI_nat hk]
    rfl
  simp [hat]
  have hs := split_bl rows[k]
  refine ⟨by decide +kernel, by omega, ?_⟩
  have hw : Txt.split rows[k] (" " : Str) = wordsL rows[k] := rfl
  rw [hw] at hs ⊢
  have hsl := hs.len
  generalize wordsL rows[k] = ws at hs hsl bad hnx
  have ok := hs.ok hro
  have wl : ∀ w ∈ ws, w.length ≤ 50000 := fun w hw => Nat.le_trans (hs.wl hw) hr
  have c1 : cutD (ws.map D.str) (some 2) none = (ws.drop 2).map D.str := by
    rw [cutD_map]; exact congrArg (List.map D.str) (cutD_from (a := 2))
  refine lc_map (ws.drop 2) .str (k := .fr) .fr (fun w => eI (numW w)) rfl (fun Qi h => ?_) (by simp; omega) rfl (by decide) (fun w hw K hk2 => ?_) ?_
  · simp
    rw [c1, if_pos (flats_map (fun _ => rfl) _)]
    exact h
  · simp [wipeR]
    have hm := List.mem_of_mem_drop hw
    refine ⟨_, rfl, w, rfl, by have := wl w hm; omega, ok w hm, ?_⟩
    cases e : numW w with
    | none => have := hk2 .fr (by rw [e]; exact kf); rw [e] at this; exact this
    | some n => have := hk2 .fr (by rw [e]; exact kf); rw [e] at this; exact this
  · refine .inr ⟨rfl, ?_⟩
    unfold d2R4
    have h0 := hs.ne
    have hnm : atI (ws.map D.str ++ [D.str ("" : Str)]) 1 = some (.str (ws.getD 1 ("" : Str))) := by
      obtain ⟨w0, r, rfl⟩ := List.exists_cons_of_ne_nil h0
      cases r with
      | nil => exact atI_nat (j := 1) (l := [D.str w0, D.str ("" : Str)]) (by simp)
      | cons w1 r => exact atI_nat (j := 1) (l := (w0 :: w1 :: r).map D.str ++ [D.str ("" : Str)]) (by simp)
    have hnl : (ws.getD 1 ("" : Str)).length ≤ 50000 := by
      rw [List.getD_eq_getElem?_getD]
      cases e : ws[1]? with
      | none => decide +kernel
      | some w => exact wl w (List.mem_of_getElem? e)
    have r3 := rd_d2R3 (XX := XX) (DD := DD) (t := t) (rows := rows) (done := done) (k := k) h0 (by omega) ok wl hd bad hnx
    unfold sD3 at r3
    generalize ws.getD 1 ("" : Str) = nm at hnm hnl r3
    have hlen : nm.cps.toList.length = nm.length := by simp [Str.length]
    generalize d2R3 = R at r3
    simp
    refine ⟨by omega, _, hnm, ?_⟩
    refine lc_fil nm.cps.toList sgD (k := .nw) .fr (fun c => letters.contains c) sgD rfl (fun Qi h => by simpa using h) (by omega) rfl (by decide) (fun c hc K K0 h1 h0 => ?_) ?_
    · simp [wipeR, sgD]
      by_cases hcl : c ∈ ("abcdefghijklmnopqrstuvwxyz" : Str).cps
      · exact .inr ⟨hcl, h1 (by simp [letters, hcl]) _ kf⟩
      · exact .inl ⟨hcl, h0 (by simp [letters, hcl])⟩
    · simp
      simpa using r3
theorem rd_due2 : Rd 11 f_due2 b_due2 := by
  rintro XX ds Q ⟨_, rfl, t, rfl, hl, ht, hq⟩
  obtain ⟨h1, h2⟩ := rows_ok ht
  have key : d2loop XX { nx := d2end XX { nx := fun x => Q D.non, rt := Q }, rt := Q } [.v false (.str t), .own true [], .v true (.lst ((rowsL t).map .str)), .e, .e, .e, .e, .e, .e, .e, .e] := by
    unfold d2loop
    refine for_rangeS 0 (rowsL t).length (fun done : List Face => sD t (rowsL t) done .e .e .e .e .e) (fun k done => done = ((rowsL t).take k).map (fun r => rowFc (wordsL r)) ∧ ∀ j, j < k → badRow (rowsL t) j = false) [] (fun Qi h => by simp; exact ⟨by omega, h⟩) rfl ⟨rfl, fun j hj => by omega⟩ (fun k done hk h => ?_) fun done h => ?_
    · obtain ⟨rfl, hb⟩ := h
      simp only [Int.zero_add]
      have hm := h2 _ (List.getElem_mem hk)
      show d2body _ _ _
      refine rd_d2body (done := ((rowsL t).take k).map fun r => rowFc (wordsL r)) hk (by omega) hm.2 (by rw [List.length_map, List.length_take]; omega) (fun h => ?_) fun h a4 a5 a6 a7 => ?_
      · rw [res_text hk hb (by rw [badRow_at hk, h]; rfl)] at hq
        exact hq
      · refine ⟨((rowsL t).take k).map (fun r => rowFc (wordsL r)) ++ [rowFc (wordsL (rowsL t)[k])], ?_, ?_, fun j hj => ?_⟩
        · unfold sD
          repeat (first | exact Fgt.refl _ | apply Fgt.keep | apply Fgt.drop)
        · rw [← List.take_append_getElem hk, List.map_append]
          rfl
        · by_cases e : j = k
          · subst e; rw [badRow_at hk, h]; rfl
          · exact hb j (by omega)
    · obtain ⟨rfl, hb⟩ := h
      rw [List.take_length]
      rw [res_rest hb] at hq
      have hG := FacesG_rows hl ht hb
      generalize (rowsL t).map (fun r => rowFc (wordsL r)) = fs at hq hG
      unfold d2end sD
      simp
      refine ⟨_, rfl, fs, rfl, hG, ?_⟩
      cases hw : wrongL fs with
      | none =>
        rw [hw] at hq
        exact .inl ⟨rfl, .inr ⟨rfl, hq⟩⟩
      | some q =>
        obtain ⟨w, n⟩ := q
        rw [hw] at hq
        refine .inr ⟨rfl, ?_⟩
        show rdAdd Kd.fr (D.tup [D.str ("case" : Str)]) Kd.nw (D.tup [D.str w, D.int n]) _
        simp
        exact hq
  rw [due2_eq]
  simp [ini]
  refine ⟨ht, by decide +kernel, ?_⟩
  unfold rowsL at key
  by_cases h0 : t = ("" : Str)
  · rw [if_pos h0] at key
    exact .inl ⟨h0, key⟩
  · rw [if_neg h0] at key
    exact .inr ⟨h0, by decide +kernel, by omega, key⟩
end HD

set_option Elab.async false
set_option linter.all false
set_option maxRecDepth 100000
set_option maxHeartbeats 400000
/-! faces alike -/
namespace HD
open PySem PySem.Spec PyProof.Rows L2
theorem alk_faceG {n : Nat} {f : Face} (h : FaceG n f) (hn : n ≤ 100000) {m : Nat} : alkD (m + 2) (eF f) = true := by
  have h1 := h.sl
  have h2 := h.ns
  simp [eF, alkD, tints, h2]
  omega
theorem alk_facesG {n : Nat} {fs : List Face} (h : FacesG n fs) (hn : n ≤ 100000) {m : Nat} : alkD (m + 3) (.lst (fs.map eF)) = true := by
  have h1 := h.len
  simp [alkD]
  exact ⟨by omega, fun f hf => alk_faceG (h.at_ f hf) hn⟩
theorem wrongL_word {fs : List Face} {w : Str} {n : Int} (h : wrongL fs = some (w, n)) : w = ("faces" : Str) ∨ w = ("face" : Str) := by
  unfold wrongL at h
  split at h
  · cases h; exact .inl rfl
  · obtain ⟨i, _, e⟩ := Option.map_eq_some_iff.mp h
    cases e; exact .inr rfl
end HD

set_option Elab.async false
set_option linter.all false
set_option maxRecDepth 100000
set_option maxHeartbeats 400000
/-! the reading of law 14 -/
namespace HD
open PySem PySem.Spec PyProof.Rows L2
def f_told : DSp := dsp1 fun a Q => ∃ t : Str, a = .str t ∧ t.length ≤ 50000 ∧ PyData.strOk t = true ∧ Q (resD (resL (rowsL t)))
theorem res_case {t : Str} {w : Str} {n : Int} (h : resL (rowsL t) = .case w n) : w = ("faces" : Str) ∨ w = ("face" : Str) := by
  unfold resL at h
  cases e : (List.range (rowsL t).length).find? (badRow (rowsL t)) with
  | some k => rw [e] at h; cases h
  | none =>
    rw [e] at h
    dsimp only at h
    cases f : wrongL ((rowsL t).map fun r => rowFc (wordsL r)) with
    | none => rw [f] at h; cases h
    | some q =>
      obtain ⟨a, b⟩ := q
      rw [f] at h
      cases h
      exact wrongL_word f
theorem res_ok {t : Str} {fs : List Face} (hl : t.length ≤ 50000) (ht : PyData.strOk t = true) (h : resL (rowsL t) = .ok fs) : FacesG 60000 fs := by
  unfold resL at h
  cases e : (List.range (rowsL t).length).find? (badRow (rowsL t)) with
  | some k => rw [e] at h; cases h
  | none =>
    rw [e] at h
    dsimp only at h
    have hb : ∀ j, j < (rowsL t).length → badRow (rowsL t) j = false := fun j hj => by
      have := List.find?_eq_none.mp e j (by simpa using hj)
      simpa using this
    have hG := FacesG_rows hl ht hb
    cases f : wrongL ((rowsL t).map fun r => rowFc (wordsL r)) with
    | none => rw [f] at h; cases h; exact hG
    | some q => obtain ⟨a, b⟩ := q; rw [f] at h; cases h
theorem alk_res {t : Str} (hl : t.length ≤ 50000) (ht : PyData.strOk t = true) : alkD 6 (resD (resL (rowsL t))) = true := by
  cases h : resL (rowsL t) with
  | text k =>
    have h1 : PyData.strOk ("text" : Str) = true := by decide +kernel
    simp [resD, alkD, h1]
  | case w n =>
    have h1 : PyData.strOk ("case" : Str) = true := by decide +kernel
    have h2 : PyData.strOk w = true := by rcases res_case h with rfl | rfl <;> decide +kernel
    simp [resD, alkD, h1, h2]
  | ok fs => exact alk_facesG (res_ok hl ht h) (by decide)
-- _law_told(_law_text): 0 _law_text 1 _law_case 2 e 3 _law_other 4 _law_kinds
@[reducible] def b_told : DTS :=
  (dTry 2 (dSeq (dAsg (dCallX f_read2 (dCons (dVar 0) dNil)) (dgName 1))
    (dRet (dIf (dB (dIsiC (dVar 1))) (dMeth f_faces (dVar 1) dNil) (dC .non))))
    (fun a cls dd => (dSeq (dAsg (dOrV (dIsX a cls dd 2 .change) (dOrV (dIsX a cls dd 2 .row) (dIsX a cls dd 2 .sign))) (dgName 3))
    (dSeq (dAsg (dLst (dCons (dIsX a cls dd 2 .text) (dCons (dIsX a cls dd 2 .case) (dCons (dVar 3) (dCons (dNotV (dIsX a cls dd 2 .value)) dNil))))) (dgName 4))
    (dSeq (dIfS (dB (dOp rdEq (dVar 4) (dLst (dCons (dC (.bl true)) (dCons (dC (.bl false)) (dCons (dC (.bl false)) (dCons (dC (.bl false)) dNil))))))) (dRet (dTup (dCons (dC (.str ("text" : Str))) (dCons (dXf a cls dd 2 ("row" : Str)) dNil)))) dNext)
    (dRet (dIf (dB (dOp rdEq (dVar 4) (dLst (dCons (dC (.bl false)) (dCons (dC (.bl true)) (dCons (dC (.bl false)) (dCons (dC (.bl false)) dNil))))))) (dTup (dCons (dC (.str ("case" : Str))) (dCons (dXf a cls dd 2 ("word" : Str)) (dCons (dXf a cls dd 2 ("number" : Str)) dNil)))) (dC .non))))))))
theorem rd_told : Rd 5 f_told b_told := by
  rintro XX ds Q ⟨_, rfl, t, rfl, hl, ht, hq⟩
  simp [b_told, ini]
  refine ⟨t, rfl, hl, ht, fun k hk => ?_, fun w n hw => ?_, fun fs hf => ?_⟩
  · have e : xfld ("row" : Str) (.text (k : Int)) = some (.int (k : Int)) := by
      show (if ("row" : Str) = ("row" : Str) then some (D.int (k : Int)) else none) = _
      rw [if_pos rfl]
    exact .inl ⟨rfl, .inl ⟨rfl, .inr ⟨rfl, .inr ⟨⟨rfl, rfl, rfl⟩, _, e, by rw [hk] at hq; exact hq⟩⟩⟩⟩
  · have e1 : xfld ("word" : Str) (.case w n) = some (.str w) := by
      show (if ("word" : Str) = ("word" : Str) then some (D.str w) else if ("word" : Str) = ("number" : Str) then some (D.int n) else none) = _
      rw [if_pos rfl]
    have e2 : xfld ("number" : Str) (.case w n) = some (.int n) := by
      show (if ("number" : Str) = ("word" : Str) then some (D.str w) else if ("number" : Str) = ("number" : Str) then some (D.int n) else none) = _
      rw [if_neg (by decide +kernel), if_pos rfl]
    exact .inl ⟨rfl, .inl ⟨rfl, .inr ⟨rfl, .inl ⟨(fun h => by cases h), .inr ⟨⟨rfl, rfl, rfl⟩, _, e1, _, e2, by rw [hw] at hq; exact hq⟩⟩⟩⟩⟩
  · exact ⟨⟨_, rfl⟩, _, rfl, call_faces (by rw [hf] at hq; exact hq)⟩
theorem call_told {XX : Exn → Prop} {Q : D → Prop} {t : Str} (hl : t.length ≤ 50000) (ht : PyData.strOk t = true) (h : Q (resD (resL (rowsL t)))) : f_told XX [.str t] Q := ⟨_, rfl, t, rfl, hl, ht, h⟩
theorem call_due2 {XX : Exn → Prop} {Q : D → Prop} {t : Str} (hl : t.length ≤ 50000) (ht : PyData.strOk t = true) (h : Q (resD (resL (rowsL t)))) : f_due2 XX [.str t] Q := ⟨_, rfl, t, rfl, hl, ht, h⟩
end HD

set_option Elab.async false
set_option linter.all false
set_option maxRecDepth 100000
set_option maxHeartbeats 400000
/-! the reading of law 14 -/
namespace HD
open PySem PySem.Spec PyProof.Rows L2
-- _law_spoilt(_law_row, _law_text): 0 _law_row 1 _law_text 2 _law_way 3 _law_at 4 _law_whole 5 _law_signs 6 _law_sign 7 _law_rows 8 _law_k 9 _law_other 10 _law_rest 11 _law_words 12 _law_j 13 _law_odd
@[reducible] def b_spoilt : DTS :=
  (dSeq (dAsg (dCall f_taken (dCons (dVar 0) (dCons (dC (.int 9)) dNil))) (dgName 2))
    (dSeq (dAsg (dCall f_taken (dCons (dVar 0) (dCons (dOp rdAdd (dCB rdLen (dCons (dVar 1) dNil)) (dC (.int 1))) dNil))) (dgName 3))
    (dSeq (dAsg (dC (.str (" !#$&'()*+,-./0123456789:;<=>?@ABCDEFGHIJKLMNOPQRSTUVWXYZ[]^_abcdefghijklmnopqrstuvwxyz{|}~" : Str))) (dgName 4))
    (dSeq (dAsg (dOp rdIx (dLst (dCons (dC (.str ("0123456789- abcefxyzAZ.\n" : Str))) (dCons (dVar 4) dNil))) (dOp rdDiv (dCall f_taken (dCons (dVar 0) (dCons (dC (.int 3)) dNil))) (dC (.int 2)))) (dgName 5))
    (dSeq (dAsg (dOp rdIx (dVar 5) (dCall f_taken (dCons (dVar 0) (dCons (dCB rdLen (dCons (dVar 5) dNil)) dNil)))) (dgName 6))
    (dSeq (dIfS (dB (dOp rdLt (dVar 2) (dC (.int 3)))) (dRet (dOp rdAdd (dOp rdAdd (dSl (dVar 1) dNo (dPt (dVar 3))) (dOp rdIx (dLst (dCons (dVar 6) (dCons (dC (.str ("" : Str))) (dCons (dVar 6) dNil)))) (dVar 2))) (dSl (dVar 1) (dPt (dOp rdAdd (dVar 3) (dCB rdIntC (dCons (dOp rdGt (dVar 2) (dC (.int 0))) dNil)))) dNo))) dNext)
    (dSeq (dAsg (dSplit (dVar 1) (dC (.str ("\n" : Str)))) (dgName 7))
    (dSeq (dAsg (dCall f_taken (dCons (dVar 0) (dCons (dCB rdLen (dCons (dVar 7) dNil)) dNil))) (dgName 8))
    (dSeq (dIfS (dB (dOp rdEq (dVar 2) (dC (.int 3)))) (dRet (dJoin (dC (.str ("\n" : Str))) (dOp rdAdd (dSl (dVar 7) dNo (dPt (dVar 8))) (dSl (dVar 7) (dPt (dOp rdAdd (dVar 8) (dC (.int 1)))) dNo)))) dNext)
    (dSeq (dIfS (dB (dOp rdEq (dVar 2) (dC (.int 4)))) (dRet (dJoin (dC (.str ("\n" : Str))) (dOp rdAdd (dSl (dVar 7) dNo (dPt (dOp rdAdd (dVar 8) (dC (.int 1))))) (dSl (dVar 7) (dPt (dVar 8)) dNo)))) dNext)
    (dSeq (dIfS (dB (dOp rdEq (dVar 2) (dC (.int 5)))) (dSeq (dAsg (dCall f_taken (dCons (dVar 0) (dCons (dCB rdLen (dCons (dVar 7) dNil)) dNil))) (dgName 9))
    (dSeq (dAsg (dOp rdAdd (dSl (dVar 7) dNo (dPt (dVar 8))) (dSl (dVar 7) (dPt (dOp rdAdd (dVar 8) (dC (.int 1)))) dNo)) (dgName 10))
    (dRet (dJoin (dC (.str ("\n" : Str))) (dOp rdAdd (dOp rdAdd (dSl (dVar 10) dNo (dPt (dVar 9))) (dLst (dCons (dOp rdIx (dVar 7) (dVar 8)) dNil))) (dSl (dVar 10) (dPt (dVar 9)) dNo)))))) dNext)
    (dSeq (dAsg (dSplit (dOp rdIx (dVar 7) (dVar 8)) (dC (.str (" " : Str)))) (dgName 11))
    (dSeq (dAsg (dCall f_taken (dCons (dVar 0) (dCons (dCB rdLen (dCons (dVar 11) dNil)) dNil))) (dgName 12))
    (dSeq (dAsg (dOp rdIx (dLst (dCons (dC (.str ("" : Str))) (dCons (dC (.str ("0" : Str))) (dCons (dC (.str ("9" : Str))) (dCons (dC (.str ("10" : Str))) (dCons (dC (.str ("999" : Str))) (dCons (dC (.str ("1000" : Str))) (dCons (dC (.str ("00" : Str))) (dCons (dC (.str ("07" : Str))) (dCons (dC (.str ("-1" : Str))) (dCons (dC (.str ("abcdefghi" : Str))) (dCons (dC (.str ("face" : Str))) (dCons (dC (.str ("a" : Str))) dNil))))))))))))) (dCall f_taken (dCons (dVar 0) (dCons (dC (.int 12)) dNil)))) (dgName 13))
    (dSeq (dAsg (dOp rdAdd (dOp rdAdd (dSl (dVar 11) dNo (dPt (dVar 12))) (dOp rdIx (dLst (dCons (dLst dNil) (dCons (dLst (dCons (dOp rdIx (dVar 11) (dVar 12)) (dCons (dOp rdIx (dVar 11) (dVar 12)) dNil))) (dCons (dLst (dCons (dVar 13) dNil)) dNil)))) (dOp rdSub (dVar 2) (dC (.int 6))))) (dSl (dVar 11) (dPt (dOp rdAdd (dVar 12) (dC (.int 1)))) dNo)) (dgName 11))
    (dRet (dJoin (dC (.str ("\n" : Str))) (dOp rdAdd (dOp rdAdd (dSl (dVar 7) dNo (dPt (dVar 8))) (dLst (dCons (dJoin (dC (.str (" " : Str))) (dVar 11)) dNil))) (dSl (dVar 7) (dPt (dOp rdAdd (dVar 8) (dC (.int 1)))) dNo)))))))))))))))))))
def bS6 : DTS := (dSeq (dAsg (dOp rdAdd (dOp rdAdd (dSl (dVar 11) dNo (dPt (dVar 12))) (dOp rdIx (dLst (dCons (dLst dNil) (dCons (dLst (dCons (dOp rdIx (dVar 11) (dVar 12)) (dCons (dOp rdIx (dVar 11) (dVar 12)) dNil))) (dCons (dLst (dCons (dVar 13) dNil)) dNil)))) (dOp rdSub (dVar 2) (dC (.int 6))))) (dSl (dVar 11) (dPt (dOp rdAdd (dVar 12) (dC (.int 1)))) dNo)) (dgName 11))
    (dRet (dJoin (dC (.str ("\n" : Str))) (dOp rdAdd (dOp rdAdd (dSl (dVar 7) dNo (dPt (dVar 8))) (dLst (dCons (dJoin (dC (.str (" " : Str))) (dVar 11)) dNil))) (dSl (dVar 7) (dPt (dOp rdAdd (dVar 8) (dC (.int 1)))) dNo)))))
def bS5 : DTS := (dSeq (dAsg (dOp rdIx (dLst (dCons (dC (.str ("" : Str))) (dCons (dC (.str ("0" : Str))) (dCons (dC (.str ("9" : Str))) (dCons (dC (.str ("10" : Str))) (dCons (dC (.str ("999" : Str))) (dCons (dC (.str ("1000" : Str))) (dCons (dC (.str ("00" : Str))) (dCons (dC (.str ("07" : Str))) (dCons (dC (.str ("-1" : Str))) (dCons (dC (.str ("abcdefghi" : Str))) (dCons (dC (.str ("face" : Str))) (dCons (dC (.str ("a" : Str))) dNil))))))))))))) (dCall f_taken (dCons (dVar 0) (dCons (dC (.int 12)) dNil)))) (dgName 13))
    bS6)
def bS4 : DTS := (dSeq (dAsg (dSplit (dOp rdIx (dVar 7) (dVar 8)) (dC (.str (" " : Str)))) (dgName 11))
    (dSeq (dAsg (dCall f_taken (dCons (dVar 0) (dCons (dCB rdLen (dCons (dVar 11) dNil)) dNil))) (dgName 12))
    bS5))
def bS3 : DTS := (dSeq (dIfS (dB (dOp rdEq (dVar 2) (dC (.int 3)))) (dRet (dJoin (dC (.str ("\n" : Str))) (dOp rdAdd (dSl (dVar 7) dNo (dPt (dVar 8))) (dSl (dVar 7) (dPt (dOp rdAdd (dVar 8) (dC (.int 1)))) dNo)))) dNext)
    (dSeq (dIfS (dB (dOp rdEq (dVar 2) (dC (.int 4)))) (dRet (dJoin (dC (.str ("\n" : Str))) (dOp rdAdd (dSl (dVar 7) dNo (dPt (dOp rdAdd (dVar 8) (dC (.int 1))))) (dSl (dVar 7) (dPt (dVar 8)) dNo)))) dNext)
    (dSeq (dIfS (dB (dOp rdEq (dVar 2) (dC (.int 5)))) (dSeq (dAsg (dCall f_taken (dCons (dVar 0) (dCons (dCB rdLen (dCons (dVar 7) dNil)) dNil))) (dgName 9))
    (dSeq (dAsg (dOp rdAdd (dSl (dVar 7) dNo (dPt (dVar 8))) (dSl (dVar 7) (dPt (dOp rdAdd (dVar 8) (dC (.int 1)))) dNo)) (dgName 10))
    (dRet (dJoin (dC (.str ("\n" : Str))) (dOp rdAdd (dOp rdAdd (dSl (dVar 10) dNo (dPt (dVar 9))) (dLst (dCons (dOp rdIx (dVar 7) (dVar 8)) dNil))) (dSl (dVar 10) (dPt (dVar 9)) dNo)))))) dNext)
    bS4)))
def bS2 : DTS := (dSeq (dAsg (dSplit (dVar 1) (dC (.str ("\n" : Str)))) (dgName 7))
    (dSeq (dAsg (dCall f_taken (dCons (dVar 0) (dCons (dCB rdLen (dCons (dVar 7) dNil)) dNil))) (dgName 8))
    bS3))
def bS1 : DTS := (dSeq (dIfS (dB (dOp rdLt (dVar 2) (dC (.int 3)))) (dRet (dOp rdAdd (dOp rdAdd (dSl (dVar 1) dNo (dPt (dVar 3))) (dOp rdIx (dLst (dCons (dVar 6) (dCons (dC (.str ("" : Str))) (dCons (dVar 6) dNil)))) (dVar 2))) (dSl (dVar 1) (dPt (dOp rdAdd (dVar 3) (dCB rdIntC (dCons (dOp rdGt (dVar 2) (dC (.int 0))) dNil)))) dNo))) dNext)
    bS2)
theorem bS_eq : b_spoilt = (dSeq (dAsg (dCall f_taken (dCons (dVar 0) (dCons (dC (.int 9)) dNil))) (dgName 2))
    (dSeq (dAsg (dCall f_taken (dCons (dVar 0) (dCons (dOp rdAdd (dCB rdLen (dCons (dVar 1) dNil)) (dC (.int 1))) dNil))) (dgName 3))
    (dSeq (dAsg (dC (.str (" !#$&'()*+,-./0123456789:;<=>?@ABCDEFGHIJKLMNOPQRSTUVWXYZ[]^_abcdefghijklmnopqrstuvwxyz{|}~" : Str))) (dgName 4))
    (dSeq (dAsg (dOp rdIx (dLst (dCons (dC (.str ("0123456789- abcefxyzAZ.\n" : Str))) (dCons (dVar 4) dNil))) (dOp rdDiv (dCall f_taken (dCons (dVar 0) (dCons (dC (.int 3)) dNil))) (dC (.int 2)))) (dgName 5))
    (dSeq (dAsg (dOp rdIx (dVar 5) (dCall f_taken (dCons (dVar 0) (dCons (dCB rdLen (dCons (dVar 5) dNil)) dNil)))) (dgName 6))
    bS1))))) := rfl
theorem cutS_tl {t : Str} {lo hi : Option Int} : ∃ a b, TL.tl (cutS t lo hi) = ((TL.tl t).drop a).take b := ⟨_, _, rfl⟩
theorem cutS_le {t : Str} {lo hi : Option Int} : (cutS t lo hi).length ≤ t.length := by
  obtain ⟨a, b, e⟩ := cutS_tl (t := t) (lo := lo) (hi := hi)
  rw [TL.len_tl, TL.len_tl t, e, List.length_take, List.length_drop]
  omega
theorem cutS_ok {t : Str} {lo hi : Option Int} (h : PyData.strOk t = true) : PyData.strOk (cutS t lo hi) = true := strOk_iff.mpr fun c hc => by
  obtain ⟨a, b, e⟩ := cutS_tl (t := t) (lo := lo) (hi := hi)
  rw [e] at hc
  exact strOk_iff.mp h c (List.mem_of_mem_drop (List.mem_of_mem_take hc))
theorem appS_ok {a b : Str} (h : PyData.strOk a = true) (h2 : PyData.strOk b = true) : PyData.strOk (a ++ b) = true := strOk_iff.mpr fun c hc => by
  rw [TL.tl_append] at hc
  exact (List.mem_append.mp hc).elim (strOk_iff.mp h c) (strOk_iff.mp h2 c)
/-- the signs of a list of words, one more for each -/
def Wn (ws : List Str) : Nat := (ws.map (·.length)).sum + ws.length
theorem Wn_app {a b : List Str} : Wn (a ++ b) = Wn a + Wn b := by unfold Wn; simp; omega
theorem Wn_one {a : Str} : Wn [a] = a.length + 1 := by unfold Wn; simp
theorem Wn_nil : Wn [] = 0 := rfl
theorem Wn_cut (ws : List Str) (k : Nat) : Wn (ws.take k) + Wn (ws.drop k) = Wn ws := by rw [← Wn_app, List.take_append_drop]
theorem Wn_at {ws : List Str} {k : Nat} (h : k < ws.length) : Wn (ws.take k) + (ws[k].length + 1) + Wn (ws.drop (k + 1)) = Wn ws := by
  rw [← Wn_one, ← Wn_app, ← Wn_app, List.take_append_getElem h, List.take_append_drop]
theorem Wn_take {ws : List Str} {k : Nat} (h : k < ws.length) : Wn (ws.take (k + 1)) = Wn (ws.take k) + (ws[k].length + 1) := by
  rw [← List.take_append_getElem h, Wn_app, Wn_one]
theorem join_W {y : Str} (hy : y.length = 1) (ws : List Str) : (Txt.join y ws).length ≤ Wn ws := by
  have := join_len y ws
  rw [hy] at this
  unfold Wn
  omega
theorem nl1 : ("\n" : Str).length = 1 := by decide +kernel
theorem bl1 : (" " : Str).length = 1 := by decide +kernel
def f_spoilt : DSp := fun _ ds Q => ∃ t : Str, ds = [.row, .str t] ∧ t.length ≤ 22000 ∧ PyData.strOk t = true ∧ ∀ t' : Str, t'.length ≤ 2 * t.length + 20 → PyData.strOk t' = true → Q (.str t')
theorem len_spoilt {XX : Exn → Prop} {ds : List D} {Q : D → Prop} (h : f_spoilt XX ds Q) : ds.length = 2 := by obtain ⟨_, rfl, _⟩ := h; rfl
def sS (t : Str) (way at_ : Int) (wh sg sn s7 s8 : Slot) : Rho := [.v false .row, .v false (.str t), .v true (.int way), .v true (.int at_), wh, sg, sn, s7, s8, .e, .e, .e, .e, .e]
/-- rows or words, joined again -/
theorem join_go {XX : Exn → Prop} {Q : D → Prop} {t y : Str} {ys : List Str} (hy : y.length = 1) (hyo : PyData.strOk y = true) (hw : Wn ys ≤ 2 * t.length + 20) (hl : t.length ≤ 22000) (ho : ∀ w ∈ ys, PyData.strOk w = true) (hq : ∀ t' : Str, t'.length ≤ 2 * t.length + 20 → PyData.strOk t' = true → Q (.str t')) :
    (ys.map (·.length)).sum + ys.length * y.length ≤ 16777216 ∧ Q (.str (Txt.join y ys)) := by
  have h1 := join_W hy ys
  refine ⟨?_, hq _ (by omega) (join_ok hyo ho)⟩
  rw [hy]
  unfold Wn at hw
  omega
def sS6 (t : Str) (way at_ : Int) (wh sg sn : Slot) (rows : List Str) (k : Nat) (ws : List Str) (j : Nat) (s13 : Slot) : Rho := [.v false .row, .v false (.str t), .v true (.int way), .v true (.int at_), wh, sg, sn, .v true (.lst (rows.map .str)), .v true (.int (k : Int)), .e, .e, .v true (.lst (ws.map .str)), .v true (.int (j : Int)), s13]
theorem rd_S6 {XX : Exn → Prop} {Q : D → Prop} {t : Str} {way at_ : Int} {wh sg sn : Slot} {rows : List Str} {k : Nat} {ws : List Str} {j : Nat} {odd : Str} (h6 : 6 ≤ way) (h9 : way < 9) (hk : k < rows.length) (hj : j < ws.length) (hW : Wn rows = t.length + 1) (hWw : Wn ws = rows[k].length + 1)
    (hr : ∀ w ∈ rows, PyData.strOk w = true) (hw : ∀ w ∈ ws, PyData.strOk w = true) (ho : odd.length ≤ 9) (hoo : PyData.strOk odd = true) (hl : t.length ≤ 22000)
    (hq : ∀ t' : Str, t'.length ≤ 2 * t.length + 20 → PyData.strOk t' = true → Q (.str t')) :
    bS6 XX { nx := fun _ => Q .non, rt := Q } (sS6 t way at_ wh sg sn rows k ws j (.v true (.str odd))) := by
  have hat : atI (ws.map D.str) (j : Int) = some (.str ws[j]) := by
    rw [atI_map, atI_nat hj]; rfl
  have c1 : cutD (rows.map D.str) none (some (k : Int)) = (rows.take k).map D.str := by rw [cutD_map, cutD_to]
  have c2 : cutD (rows.map D.str) (some ((k : Int) + 1)) none = (rows.drop (k + 1)).map D.str := by rw [cutD_map, show (k : Int) + 1 = ((k + 1 : Nat) : Int) by omega, cutD_from]
  have c3 : cutD (ws.map D.str) none (some (j : Int)) = (ws.take j).map D.str := by rw [cutD_map, cutD_to]
  have c4 : cutD (ws.map D.str) (some ((j : Int) + 1)) none = (ws.drop (j + 1)).map D.str := by rw [cutD_map, show (j : Int) + 1 = ((j + 1 : Nat) : Int) by omega, cutD_from]
  have hwa := Wn_at hk
  have hwb := Wn_at hj
  have f1 : D.flats ((ws.map D.str).take j) = true := by rw [← List.map_take]; exact flats_map (f := D.str) (fun _ => rfl) _
  have f2 : D.flats ((ws.map D.str).drop (j + 1)) = true := by rw [← List.map_drop]; exact flats_map (f := D.str) (fun _ => rfl) _
  have hrl : rows.length ≤ t.length + 1 := by unfold Wn at hW; omega
  have hwl : ws.length ≤ rows[k].length + 1 := by unfold Wn at hWw; omega
  have hrk : rows[k].length ≤ t.length := by omega
  have fin : ∀ ys : List Str, Wn ys ≤ 2 * (rows[k].length + 1) + 9 → (∀ w ∈ ys, PyData.strOk w = true) → (ys.map (·.length)).sum + ys.length * (" " : Str).length ≤ 16777216 ∧ min k rows.length ≤ 99999 ∧ min k rows.length + 1 + (rows.length - (k + 1)) ≤ 100000 ∧
      ∃ zs : List Str, (rows.map D.str).take k ++ D.str (Txt.join (" " : Str) ys) :: (rows.map D.str).drop (k + 1) = zs.map D.str ∧ (zs.map (·.length)).sum + zs.length * ("\n" : Str).length ≤ 16777216 ∧ Q (.str (Txt.join ("\n" : Str) zs)) := fun ys h1 h2 => by
    have hj1 := join_W bl1 ys
    refine ⟨by rw [bl1]; unfold Wn at h1; omega, by omega, by omega, rows.take k ++ Txt.join (" " : Str) ys :: rows.drop (k + 1), by simp, ?_⟩
    refine join_go (XX := XX) nl1 (by decide +kernel) ?_ hl (fun w hw => ?_) hq
    · have e : rows.take k ++ Txt.join (" " : Str) ys :: rows.drop (k + 1) = rows.take k ++ ([Txt.join (" " : Str) ys] ++ rows.drop (k + 1)) := rfl
      rw [e, Wn_app, Wn_app, Wn_one]
      omega
    · rcases List.mem_append.mp hw with h | h
      · exact hr _ (List.mem_of_mem_take h)
      · rcases List.mem_cons.mp h with h | h
        · rw [h]; exact join_ok (by decide +kernel) h2
        · exact hr _ (List.mem_of_mem_drop h)
  have m1 : ∀ w ∈ ws.take j, PyData.strOk w = true := fun w h => hw _ (List.mem_of_mem_take h)
  have m2 : ∀ w ∈ ws.drop (j + 1), PyData.strOk w = true := fun w h => hw _ (List.mem_of_mem_drop h)
  unfold bS6 sS6
  obtain rfl | rfl | rfl : way = 6 ∨ way = 7 ∨ way = 8 := by omega
  · simp [c1, c2, c3, c4, hat, f1, f2]
    refine ⟨by omega, by omega, ws.take j ++ ws.drop (j + 1), by simp, fin _ (by rw [Wn_app]; omega) fun w h => ?_⟩
    exact (List.mem_append.mp h).elim (m1 w) (m2 w)
  · simp [c1, c2, c3, c4, hat, f1, f2]
    refine ⟨by omega, by omega, ws.take j ++ ([ws[j], ws[j]] ++ ws.drop (j + 1)), by simp only [List.map_append, List.map_take, List.map_drop, List.map_cons, List.map_nil, List.cons_append, List.nil_append], fin _ ?_ fun w h => ?_⟩
    · have e2 : Wn [ws[j], ws[j]] = 2 * (ws[j].length + 1) := by unfold Wn; simp; omega
      rw [Wn_app, Wn_app, e2]; omega
    · rcases List.mem_append.mp h with h | h
      · exact m1 w h
      · rcases List.mem_append.mp h with h | h
        · simp at h; rw [h]; exact hw _ (List.getElem_mem hj)
        · exact m2 w h
  · simp [c1, c2, c3, c4, hat, f1, f2]
    refine ⟨by omega, by omega, ws.take j ++ ([odd] ++ ws.drop (j + 1)), by simp, fin _ ?_ fun w h => ?_⟩
    · rw [Wn_app, Wn_app, Wn_one]; omega
    · rcases List.mem_append.mp h with h | h
      · exact m1 w h
      · rcases List.mem_append.mp h with h | h
        · simp at h; rw [h]; exact hoo
        · exact m2 w h

def oddTs : List Str := ["", "0", "9", "10", "999", "1000", "00", "07", "-1", "abcdefghi", "face", "a"]
theorem oddTs_ok : oddTs.length = 12 ∧ ∀ i < 12, (oddTs[i]!).length ≤ 9 ∧ PyData.strOk (oddTs[i]!) = true := by decide +kernel
/-- the list of odd words, and what it answers at an index -/
theorem rd_S5 {XX : Exn → Prop} {Q : D → Prop} {t : Str} {way at_ : Int} {wh sg sn : Slot} {rows : List Str} {k : Nat} {ws : List Str} {j : Nat} (h6 : 6 ≤ way) (h9 : way < 9) (hk : k < rows.length) (hj : j < ws.length) (hW : Wn rows = t.length + 1) (hWw : Wn ws = rows[k].length + 1)
    (hr : ∀ w ∈ rows, PyData.strOk w = true) (hw : ∀ w ∈ ws, PyData.strOk w = true) (hl : t.length ≤ 22000)
    (hq : ∀ t' : Str, t'.length ≤ 2 * t.length + 20 → PyData.strOk t' = true → Q (.str t')) :
    bS5 XX { nx := fun _ => Q .non, rt := Q } (sS6 t way at_ wh sg sn rows k ws j .e) := by
  have key : ∀ x : Int, 0 ≤ x → x < 12 → ∃ d, atI (oddTs.map D.str) x = some d ∧ ∃ o : Str, d = .str o ∧ o.length ≤ 9 ∧ PyData.strOk o = true := fun x h1 h2 => by
    obtain ⟨n, rfl⟩ : ∃ n : Nat, x = n := ⟨x.toNat, by omega⟩
    have hn : n < 12 := by omega
    have hn2 : n < oddTs.length := by rw [oddTs_ok.1]; exact hn
    refine ⟨.str oddTs[n], by rw [atI_map, atI_nat hn2]; rfl, _, rfl, ?_⟩
    have := oddTs_ok.2 n hn
    rwa [getElem!_pos oddTs n hn2] at this
  unfold bS5 sS6
  simp only [dSeq, dAsg, dCons, dNil, dLst, dC, dOp]
  refine ⟨by decide, .v false .row, rfl, 12, rfl, by omega, by omega, fun x h1 h2 => ?_⟩
  obtain ⟨d, e, o, rfl, ho, hoo⟩ := key x h1 h2
  refine ⟨.str o, e, ?_⟩
  have h6 := rd_S6 (XX := XX) (way := way) (at_ := at_) (wh := wh) (sg := sg) (sn := sn) h6 h9 hk hj hW hWw hr hw ho hoo hl hq
  exact ⟨true, rfl, h6⟩
def sS4 (t : Str) (way at_ : Int) (wh sg sn : Slot) (rows : List Str) (k : Nat) : Rho := [.v false .row, .v false (.str t), .v true (.int way), .v true (.int at_), wh, sg, sn, .v true (.lst (rows.map .str)), .v true (.int (k : Int)), .e, .e, .e, .e, .e]
theorem rd_S4 {XX : Exn → Prop} {Q : D → Prop} {t : Str} {way at_ : Int} {wh sg sn : Slot} {rows : List Str} {k : Nat} (h6 : 6 ≤ way) (h9 : way < 9) (hk : k < rows.length) (hW : Wn rows = t.length + 1)
    (hr : ∀ w ∈ rows, PyData.strOk w = true) (hl : t.length ≤ 22000)
    (hq : ∀ t' : Str, t'.length ≤ 2 * t.length + 20 → PyData.strOk t' = true → Q (.str t')) :
    bS4 XX { nx := fun _ => Q .non, rt := Q } (sS4 t way at_ wh sg sn rows k) := by
  have hat : atI (rows.map D.str) (k : Int) = some (.str rows[k]) := by
    rw [atI_map, atI_nat hk]; rfl
  have hwa := Wn_at hk
  have spl := split_bl rows[k]
  unfold bS4 sS4
  simp [hat]
  have hrk : rows[k].length ≤ t.length := by omega
  have hwne : 0 < (Txt.split rows[k] (" " : Str)).length := List.length_pos_iff.mpr spl.ne
  have hsm := spl.sm
  refine ⟨by rw [bl1]; omega, by omega, hwne, by omega, fun x h1 h2 => ?_⟩
  obtain ⟨j, rfl⟩ : ∃ n : Nat, x = n := ⟨x.toNat, by omega⟩
  have h5 := rd_S5 (XX := XX) (way := way) (at_ := at_) (wh := wh) (sg := sg) (sn := sn) (j := j) h6 h9 hk (ws := Txt.split rows[k] (" " : Str)) (by omega) hW (by unfold Wn; exact hsm) hr (spl.ok (hr _ (List.getElem_mem hk))) hl hq
  exact h5
theorem rd_S3 {XX : Exn → Prop} {Q : D → Prop} {t : Str} {way at_ : Int} {wh sg sn : Slot} {rows : List Str} {k : Nat} (h3 : 3 ≤ way) (h9 : way < 9) (hk : k < rows.length) (hW : Wn rows = t.length + 1)
    (hr : ∀ w ∈ rows, PyData.strOk w = true) (hl : t.length ≤ 22000)
    (hq : ∀ t' : Str, t'.length ≤ 2 * t.length + 20 → PyData.strOk t' = true → Q (.str t')) :
    bS3 XX { nx := fun _ => Q .non, rt := Q } (sS4 t way at_ wh sg sn rows k) := by
  have hat : atI (rows.map D.str) (k : Int) = some (.str rows[k]) := by
    rw [atI_map, atI_nat hk]; rfl
  have c1 : cutD (rows.map D.str) none (some (k : Int)) = (rows.take k).map D.str := by rw [cutD_map, cutD_to]
  have c2 : cutD (rows.map D.str) (some ((k : Int) + 1)) none = (rows.drop (k + 1)).map D.str := by rw [cutD_map, show (k : Int) + 1 = ((k + 1 : Nat) : Int) by omega, cutD_from]
  have c3 : cutD (rows.map D.str) none (some ((k : Int) + 1)) = (rows.take (k + 1)).map D.str := by rw [cutD_map, show (k : Int) + 1 = ((k + 1 : Nat) : Int) by omega, cutD_to]
  have c4 : cutD (rows.map D.str) (some (k : Int)) none = (rows.drop k).map D.str := by rw [cutD_map, cutD_from]
  have hwa := Wn_at hk
  have hwt := Wn_take hk
  have hwc := Wn_cut rows k
  have hrl : rows.length ≤ t.length + 1 := by unfold Wn at hW; omega
  have fl : ∀ ys : List Str, D.flats (ys.map D.str) = true := fun ys => flats_map (f := D.str) (fun _ => rfl) ys
  have fin : ∀ ys : List Str, Wn ys ≤ 2 * t.length + 20 → (∀ w ∈ ys, w ∈ rows) → (ys.map (·.length)).sum + ys.length * (Str.ofString "\n").length ≤ 16777216 ∧ Q (.str (Txt.join (Str.ofString "\n") ys)) := fun ys h1 h2 =>
    join_go (XX := XX) nl1 (by decide +kernel) h1 hl (fun w h => hr w (h2 w h)) hq
  unfold bS3
  by_cases w3 : way = 3
  · subst w3
    unfold sS4
    simp [c1, c2, c3, c4, hat, fl]
    refine ⟨by omega, rows.take k ++ rows.drop (k + 1), by simp only [List.map_append, List.map_take, List.map_drop], fin _ (by rw [Wn_app]; omega) fun w h => ?_⟩
    exact (List.mem_append.mp h).elim List.mem_of_mem_take List.mem_of_mem_drop
  by_cases w4 : way = 4
  · subst w4
    unfold sS4
    simp [c1, c2, c3, c4, hat, fl]
    refine ⟨by omega, rows.take (k + 1) ++ rows.drop k, by simp only [List.map_append, List.map_take, List.map_drop], fin _ (by rw [Wn_app]; omega) fun w h => ?_⟩
    exact (List.mem_append.mp h).elim List.mem_of_mem_take List.mem_of_mem_drop
  by_cases w5 : way = 5
  · subst w5
    unfold sS4
    have f1 : D.flats ((rows.map D.str).take k) = true := by rw [← List.map_take]; exact fl _
    have f2 : D.flats ((rows.map D.str).drop (k + 1)) = true := by rw [← List.map_drop]; exact fl _
    have e : (rows.map D.str).take k ++ (rows.map D.str).drop (k + 1) = (rows.take k ++ rows.drop (k + 1)).map D.str := by simp only [List.map_append, List.map_take, List.map_drop]
    have el : (rows.take k ++ rows.drop (k + 1)).length ≤ rows.length := by simp; omega
    have eW : Wn (rows.take k ++ rows.drop (k + 1)) + (rows[k].length + 1) = Wn rows := by rw [Wn_app]; omega
    have em : ∀ w ∈ rows.take k ++ rows.drop (k + 1), w ∈ rows := fun w h => (List.mem_append.mp h).elim List.mem_of_mem_take List.mem_of_mem_drop
    simp [c1, c2, c3, c4, hat, f1, f2]
    rw [e]
    generalize rows.take k ++ rows.drop (k + 1) = rest at el eW em
    refine ⟨by omega, by omega, fun x h1 h2 => ⟨by omega, ?_⟩⟩
    obtain ⟨j, rfl⟩ : ∃ n : Nat, x = n := ⟨x.toNat, by omega⟩
    have d1 : cutD (rest.map D.str) none (some (j : Int)) = (rest.take j).map D.str := by rw [cutD_map, cutD_to]
    have d2 : cutD (rest.map D.str) (some (j : Int)) none = (rest.drop j).map D.str := by rw [cutD_map, cutD_from]
    have hwr := Wn_cut rest j
    rw [d1, d2]
    simp only [List.length_map, List.length_take, List.length_drop]
    refine ⟨by omega, by omega, rest.take j ++ ([rows[k]] ++ rest.drop j), by simp only [List.map_append, List.map_cons, List.map_nil, List.cons_append, List.nil_append], fin _ ?_ fun w h => ?_⟩
    · rw [Wn_app, Wn_app, Wn_one]; omega
    · rcases List.mem_append.mp h with h | h
      · exact em w (List.mem_of_mem_take h)
      · rcases List.mem_append.mp h with h | h
        · simp at h; rw [h]; exact List.getElem_mem hk
        · exact em w (List.mem_of_mem_drop h)
  have h4 := rd_S4 (XX := XX) (way := way) (at_ := at_) (wh := wh) (sg := sg) (sn := sn) (by omega) h9 hk hW hr hl hq
  unfold sS4 at h4 ⊢
  simp [w3, w4, w5]
  exact h4
def sS2 (t : Str) (way at_ : Int) (wh sg sn : Slot) : Rho := [.v false .row, .v false (.str t), .v true (.int way), .v true (.int at_), wh, sg, sn, .e, .e, .e, .e, .e, .e, .e]
theorem rd_S2 {XX : Exn → Prop} {Q : D → Prop} {t : Str} {way at_ : Int} {wh sg sn : Slot} (h3 : 3 ≤ way) (h9 : way < 9) (ht : PyData.strOk t = true) (hl : t.length ≤ 22000)
    (hq : ∀ t' : Str, t'.length ≤ 2 * t.length + 20 → PyData.strOk t' = true → Q (.str t')) :
    bS2 XX { nx := fun _ => Q .non, rt := Q } (sS2 t way at_ wh sg sn) := by
  have spl := split_nl t
  have hne : 0 < (Txt.split t ("\n" : Str)).length := List.length_pos_iff.mpr spl.ne
  have hsm := spl.sm
  unfold bS2 sS2
  simp
  refine ⟨by rw [nl1]; omega, by omega, hne, by omega, fun x h1 h2 => ?_⟩
  obtain ⟨k, rfl⟩ : ∃ n : Nat, x = n := ⟨x.toNat, by omega⟩
  exact rd_S3 (XX := XX) (way := way) (at_ := at_) (wh := wh) (sg := sg) (sn := sn) (k := k) h3 h9 (rows := Txt.split t ("\n" : Str)) (by omega) (by unfold Wn; exact hsm) (spl.ok ht) hl hq
theorem rd_S1 {XX : Exn → Prop} {Q : D → Prop} {t : Str} {way at_ : Int} {wh sg : Slot} {c : Str} (h3 : 0 ≤ way) (h9 : way < 9) (ht : PyData.strOk t = true) (hl : t.length ≤ 22000) (hc1 : c.length = 1) (hc2 : PyData.strOk c = true)
    (hq : ∀ t' : Str, t'.length ≤ 2 * t.length + 20 → PyData.strOk t' = true → Q (.str t')) :
    bS1 XX { nx := fun _ => Q .non, rt := Q } (sS2 t way at_ wh sg (.v true (.str c))) := by
  unfold bS1
  by_cases w : way < 3
  · have e : ∃ d : Str, atI [D.str c, D.str ("" : Str), D.str c] way = some (.str d) ∧ d.length ≤ 1 ∧ PyData.strOk d = true := by
      obtain rfl | rfl | rfl : way = 0 ∨ way = 1 ∨ way = 2 := by omega
      · exact ⟨c, rfl, by omega, hc2⟩
      · exact ⟨("" : Str), rfl, by decide, by decide +kernel⟩
      · exact ⟨c, rfl, by omega, hc2⟩
    obtain ⟨d, e, hd1, hd2⟩ := e
    unfold sS2
    simp [w, e]
    have l1 := cutS_le (t := t) (lo := none) (hi := some at_)
    have l2 := cutS_le (t := t) (lo := some (at_ + if 0 < way then 1 else 0)) (hi := none)
    have la : ∀ a b : Str, (a ++ b).length = a.length + b.length := fun a b => by rw [TL.len_tl, TL.len_tl a, TL.len_tl b, TL.tl_append, List.length_append]
    have l3 : (cutS t none (some at_) ++ d).length = (cutS t none (some at_)).length + d.length := la _ _
    have l4 : (cutS t none (some at_) ++ d ++ cutS t (some (at_ + if 0 < way then 1 else 0)) none).length = (cutS t none (some at_) ++ d).length + (cutS t (some (at_ + if 0 < way then 1 else 0)) none).length := la _ _
    exact ⟨by omega, by omega, by omega, by omega, hq _ (by omega) (appS_ok (appS_ok (cutS_ok ht) hd2) (cutS_ok ht))⟩
  · have h2 := rd_S2 (XX := XX) (way := way) (at_ := at_) (wh := wh) (sg := sg) (sn := .v true (.str c)) (by omega) h9 ht hl hq
    unfold sS2 at h2 ⊢
    simp [w]
    exact h2
theorem rd_spoilt : Rd 14 f_spoilt b_spoilt := by
  intro XX ds Q h
  obtain ⟨t, rfl, hl, ht, hq⟩ := h
  rw [bS_eq]
  have h1 := fun way at_ wh sg c h3 h9 hc1 hc2 => rd_S1 (XX := XX) (Q := Q) (t := t) (way := way) (at_ := at_) (wh := wh) (sg := sg) (c := c) h3 h9 ht hl hc1 hc2 hq
  unfold sS2 at h1
  have hA : 0 < ("0123456789- abcefxyzAZ.\n" : Str).length ∧ ("0123456789- abcefxyzAZ.\n" : Str).length ≤ 1000 ∧ PyData.strOk ("0123456789- abcefxyzAZ.\n" : Str) = true := by decide +kernel
  have hB : 0 < (" !#$&'()*+,-./0123456789:;<=>?@ABCDEFGHIJKLMNOPQRSTUVWXYZ[]^_abcdefghijklmnopqrstuvwxyz{|}~" : Str).length ∧ (" !#$&'()*+,-./0123456789:;<=>?@ABCDEFGHIJKLMNOPQRSTUVWXYZ[]^_abcdefghijklmnopqrstuvwxyz{|}~" : Str).length ≤ 1000 ∧ PyData.strOk (" !#$&'()*+,-./0123456789:;<=>?@ABCDEFGHIJKLMNOPQRSTUVWXYZ[]^_abcdefghijklmnopqrstuvwxyz{|}~" : Str) = true := by decide +kernel
  generalize ("0123456789- abcefxyzAZ.\n" : Str) = A at hA ⊢
  generalize (" !#$&'()*+,-./0123456789:;<=>?@ABCDEFGHIJKLMNOPQRSTUVWXYZ[]^_abcdefghijklmnopqrstuvwxyz{|}~" : Str) = B at hB ⊢
  have hS : ∀ i : Int, 0 ≤ i → i < 2 → ∃ S : Str, atI [D.str A, D.str B] i = some (.str S) ∧ 0 < S.length ∧ S.length ≤ 1000 ∧ PyData.strOk S = true := fun i h1 h2 => by
    obtain rfl | rfl : i = 0 ∨ i = 1 := by omega
    · exact ⟨A, rfl, hA⟩
    · exact ⟨B, rfl, hB⟩
  have hcp : ∀ S : Str, PyData.strOk S = true → ∀ i : Int, 0 ≤ i → i < S.length → ∃ c, atI S.cps.toList i = some c ∧ (Str.mk #[c]).length = 1 ∧ PyData.strOk (Str.mk #[c]) = true := fun S ok i h1 h2 => by
    obtain ⟨n, rfl⟩ : ∃ n : Nat, i = n := ⟨i.toNat, by omega⟩
    have hn : n < S.cps.toList.length := by
      have := TL.len_tl S
      have e : TL.tl S = S.cps.toList := rfl
      rw [e] at this
      omega
    refine ⟨_, atI_nat hn, rfl, strOk_iff.mpr fun c hc => ?_⟩
    have e : TL.tl (Str.mk #[S.cps.toList[n]]) = [S.cps.toList[n]] := rfl
    rw [e, List.mem_singleton] at hc
    rw [hc]
    exact strOk_iff.mp ok _ (List.getElem_mem hn)
  simp [ini]
  intro way w0 w9
  refine ⟨by omega, by omega, fun at_ a0 a1 i i0 i3 => ?_⟩
  obtain ⟨S, eS, S0, S1, ok⟩ := hS (i / 2) (by omega) (by omega)
  refine ⟨_, eS, ?_⟩
  simp
  refine ⟨by omega, by omega, by omega, fun j j0 j1 => ⟨by omega, ?_⟩⟩
  obtain ⟨c, ec, hc1, hc2⟩ := hcp S ok j j0 j1
  exact ⟨c, ec, h1 way at_ _ _ _ w0 w9 hc1 hc2⟩
theorem call_spoilt {XX : Exn → Prop} {Q : D → Prop} {t : Str} (hl : t.length ≤ 22000) (ht : PyData.strOk t = true) (h : ∀ t' : Str, t'.length ≤ 2 * t.length + 20 → PyData.strOk t' = true → Q (.str t')) : f_spoilt XX [.row, .str t] Q := ⟨t, rfl, hl, ht, h⟩
end HD

set_option Elab.async false
set_option linter.all false
set_option maxRecDepth 100000
set_option maxHeartbeats 400000
/-! the reading of law 14 -/
namespace HD
open PySem PySem.Spec PyProof.Rows L2
-- _law_odd_text(_law_row): 0 _law_row 1 _law_some 2 _law_rows 3 _law_k
@[reducible] def b_odd_text : DTS :=
  (dSeq (dAsg (dLst (dCons (dC (.str ("" : Str))) (dCons (dC (.str (" " : Str))) (dCons (dC (.str ("\n" : Str))) (dCons (dC (.str ("face" : Str))) (dCons (dC (.str ("face a" : Str))) (dCons (dC (.str ("face a 0" : Str))) (dCons (dC (.str ("face a 10" : Str))) (dCons (dC (.str ("face a 0 1 1" : Str))) (dCons (dC (.str ("face a 0 2 1" : Str))) (dCons (dC (.str ("face A 0" : Str))) dNil))))))))))) (dgName 1))
    (dSeq (dAsg (dOp rdAdd (dVar 1) (dLst (dCons (dC (.str ("face a 0\nface a 0" : Str))) (dCons (dC (.str ("face a 0\n" : Str))) (dCons (dC (.str ("Face a 0" : Str))) (dCons (dC (.str ("face a 0 1000" : Str))) (dCons (dC (.str ("face ab 9 0 999" : Str))) dNil))))))) (dgName 1))
    (dSeq (dAsg (dLc (diRg1 (dCons (dC (.int 9)) dNil)) (dgName 3) dYes (dOp rdAdd (dOp rdAdd (dC (.str ("face " : Str))) (dOp rdIx (dC (.str ("abcdefghi" : Str))) (dVar 3))) (dC (.str (" 0" : Str)))) [3]) (dgName 2))
    (dRet (dOp rdIx (dOp rdAdd (dVar 1) (dLst (dCons (dJoin (dC (.str ("\n" : Str))) (dVar 2)) dNil))) (dCall f_taken (dCons (dVar 0) (dCons (dC (.int 16)) dNil))))))))
def bO3 : DTS := (dRet (dOp rdIx (dOp rdAdd (dVar 1) (dLst (dCons (dJoin (dC (.str ("\n" : Str))) (dVar 2)) dNil))) (dCall f_taken (dCons (dVar 0) (dCons (dC (.int 16)) dNil)))))
def bO2 : DTS := (dSeq (dAsg (dLc (diRg1 (dCons (dC (.int 9)) dNil)) (dgName 3) dYes (dOp rdAdd (dOp rdAdd (dC (.str ("face " : Str))) (dOp rdIx (dC (.str ("abcdefghi" : Str))) (dVar 3))) (dC (.str (" 0" : Str)))) [3]) (dgName 2))
    bO3)
def bO1 : DTS := (dSeq (dAsg (dOp rdAdd (dVar 1) (dLst (dCons (dC (.str ("face a 0\nface a 0" : Str))) (dCons (dC (.str ("face a 0\n" : Str))) (dCons (dC (.str ("Face a 0" : Str))) (dCons (dC (.str ("face a 0 1000" : Str))) (dCons (dC (.str ("face ab 9 0 999" : Str))) dNil))))))) (dgName 1))
    bO2)
theorem bO_eq : b_odd_text = (dSeq (dAsg (dLst (dCons (dC (.str ("" : Str))) (dCons (dC (.str (" " : Str))) (dCons (dC (.str ("\n" : Str))) (dCons (dC (.str ("face" : Str))) (dCons (dC (.str ("face a" : Str))) (dCons (dC (.str ("face a 0" : Str))) (dCons (dC (.str ("face a 10" : Str))) (dCons (dC (.str ("face a 0 1 1" : Str))) (dCons (dC (.str ("face a 0 2 1" : Str))) (dCons (dC (.str ("face A 0" : Str))) dNil))))))))))) (dgName 1))
    bO1) := rfl
def O1 : List Str := ["", " ", "\n", "face", "face a", "face a 0", "face a 10", "face a 0 1 1", "face a 0 2 1", "face A 0"]
def O2 : List Str := ["face a 0\nface a 0", "face a 0\n", "Face a 0", "face a 0 1000", "face ab 9 0 999"]
theorem O_ok : (O1 ++ O2).length = 15 ∧ ∀ i < 15, ((O1 ++ O2)[i]!).length ≤ 1000 ∧ PyData.strOk ((O1 ++ O2)[i]!) = true := by decide +kernel
def CH9 : List Nat := ("abcdefghi" : Str).cps.toList
theorem CH9_len : CH9.length = 9 := by decide +kernel
def oddR (i : Nat) : Str := ("face " : Str) ++ (⟨#[CH9[i]!]⟩ : Str) ++ (" 0" : Str)
theorem oddR_ok : ∀ i < 9, (oddR i).length ≤ 8 ∧ PyData.strOk (oddR i) = true := by decide +kernel
def oddJ : Str := Txt.join ("\n" : Str) ((List.range 9).map oddR)
theorem oddJ_ok : oddJ.length ≤ 1000 ∧ PyData.strOk oddJ = true := by decide +kernel
def f_odd_text : DSp := dsp1 fun a Q => a = .row ∧ ∀ t : Str, t.length ≤ 1000 → PyData.strOk t = true → Q (.str t)
theorem call_odd_text {XX : Exn → Prop} {Q : D → Prop} (h : ∀ t : Str, t.length ≤ 1000 → PyData.strOk t = true → Q (.str t)) : f_odd_text XX [.row] Q := ⟨_, rfl, rfl, h⟩
theorem rd_O3 {XX : Exn → Prop} {Q : D → Prop} {k : Slot} (hq : ∀ t : Str, t.length ≤ 1000 → PyData.strOk t = true → Q (.str t)) :
    bO3 XX { nx := fun _ => Q .non, rt := Q } [.v false .row, .v true (.lst ((O1 ++ O2).map .str)), .v true (.lst (((List.range 9).map oddR).map .str)), k] := by
  have key : ∀ x : Int, 0 ≤ x → x < 16 → ∃ d, atI ((O1 ++ O2).map D.str ++ [D.str oddJ]) x = some d ∧ ∃ o : Str, d = .str o ∧ o.length ≤ 1000 ∧ PyData.strOk o = true := fun x h1 h2 => by
    obtain ⟨n, rfl⟩ : ∃ n : Nat, x = n := ⟨x.toNat, by omega⟩
    have hl : ((O1 ++ O2).map D.str).length = 15 := by rw [List.length_map, O_ok.1]
    have hn : n < ((O1 ++ O2).map D.str ++ [D.str oddJ]).length := by rw [List.length_append, hl]; simp; omega
    refine ⟨_, atI_nat hn, ?_⟩
    by_cases h : n < 15
    · have hn2 : n < (O1 ++ O2).length := by rw [O_ok.1]; exact h
      refine ⟨(O1 ++ O2)[n], ?_, ?_⟩
      · rw [List.getElem_append_left (by rw [hl]; exact h), List.getElem_map]
      · have := O_ok.2 n h
        rwa [getElem!_pos (O1 ++ O2) n hn2] at this
    · refine ⟨oddJ, ?_, oddJ_ok⟩
      rw [List.getElem_append_right (by rw [hl]; omega)]
      simp
  have hs : (((List.range 9).map oddR).map (·.length)).sum + ((List.range 9).map oddR).length * ("\n" : Str).length ≤ 16777216 := by decide +kernel
  have hl : ((O1 ++ O2).map D.str).length = 15 := by rw [List.length_map, O_ok.1]
  have hJ : Txt.join ("\n" : Str) ((List.range 9).map oddR) = oddJ := rfl
  have fl : D.flats ((O1 ++ O2).map D.str) = true := flats_map (f := D.str) (fun _ => rfl) _
  generalize (O1 ++ O2).map D.str = L at key hl fl ⊢
  generalize (List.range 9).map oddR = R at hs hJ ⊢
  unfold bO3
  simp [fl]
  refine ⟨hs, by omega, fun x h1 h2 => ?_⟩
  obtain ⟨d, e, o, rfl, ho, hoo⟩ := key x h1 h2
  rw [hJ]
  exact ⟨_, e, hq o ho hoo⟩
theorem rd_O2 {XX : Exn → Prop} {Q : D → Prop} (hq : ∀ t : Str, t.length ≤ 1000 → PyData.strOk t = true → Q (.str t)) :
    bO2 XX { nx := fun _ => Q .non, rt := Q } [.v false .row, .v true (.lst ((O1 ++ O2).map .str)), .e, .e] := by
  have h3 := fun k => rd_O3 (XX := XX) (k := k) hq
  have fl : ∀ ys : List Str, D.flats (ys.map D.str) = true := fun ys => flats_map (f := D.str) (fun _ => rfl) ys
  generalize (O1 ++ O2).map D.str = L at h3 ⊢
  unfold bO2
  simp
  refine lc_map (List.range 9) (fun i : Nat => .int (0 + (i : Int))) .fr (fun i => .str (oddR i)) (n := true) rfl (fun Q h => by simp; exact h) (by simp) rfl (by simp) (fun i hi K hK => ?_) ?_
  · have hi9 : i < 9 := by simpa using hi
    have ea : atI CH9 (0 + (i : Int)) = some (CH9[i]!) := by
      rw [show (0 : Int) + (i : Int) = (i : Int) by omega, atI_nat (by rw [CH9_len]; exact hi9), getElem!_pos CH9 i (by rw [CH9_len]; exact hi9)]
    have l1 : ("face " : Str).length + 1 + (" 0" : Str).length = 8 := by decide +kernel
    have l2 : ("abcdefghi" : Str).length = 9 := by decide +kernel
    have la : ∀ a b : Str, (a ++ b).length = a.length + b.length := fun a b => by rw [TL.len_tl, TL.len_tl a, TL.len_tl b, TL.tl_append, List.length_append]
    have lc : (⟨#[CH9[i]!]⟩ : Str).length = 1 := rfl
    refine ⟨.v true (.int (0 + (i : Int))), rfl, by omega, _, ea, by omega, by rw [la]; omega, hK _ (by simp [kle])⟩
  · refine .inr ⟨rfl, ?_⟩
    have h := h3 .e
    rw [List.map_map] at h
    exact h
theorem rd_odd_text : Rd 4 f_odd_text b_odd_text := by
  rintro XX ds Q ⟨_, rfl, rfl, hq⟩
  rw [bO_eq]
  have h2 := rd_O2 (XX := XX) hq
  refine ⟨by decide, true, rfl, ?_⟩
  unfold bO1
  refine ⟨.v true (.lst (O1.map .str)), rfl, by decide, by decide, true, rfl, ?_⟩
  exact h2
-- law(_law_script): 0 _law_script 1 _law_row 2 _law_turn 3 _law_text 4 _law_change 5 _law_some
@[reducible] def b_law14 : DTS :=
  (dSeq (dFor (diRg1 (dCons (dC (.int 5)) dNil)) (dgName 2) (dSeq (dAsg (dCall f_text_of (dCons (dCall f_faces2 (dCons (dVar 1) (dCons (dCall f_pool (dCons (dVar 1) dNil)) (dCons (dC (.int 8)) dNil)))) dNil)) (dgName 3))
    (dSeq (dIfS (dNot (dB (dCall f_alike (dCons (dCall f_told (dCons (dVar 3) dNil)) (dCons (dCall f_due2 (dCons (dVar 3) dNil)) dNil))))) (dRet (dC (.bl false))) dNext)
    (dSeq (dFor (diRg1 (dCons (dOp rdAdd (dC (.int 1)) (dCall f_taken (dCons (dVar 1) (dCons (dC (.int 2)) dNil)))) dNil)) (dgName 4) (dAsg (dCall f_spoilt (dCons (dVar 1) (dCons (dVar 3) dNil))) (dgName 3)))
    (dFor (diSq (dLst (dCons (dVar 3) (dCons (dCall f_odd_text (dCons (dVar 1) dNil)) dNil)))) (dgName 5) (dIfS (dNot (dB (dCall f_alike (dCons (dCall f_told (dCons (dVar 5) dNil)) (dCons (dCall f_due2 (dCons (dVar 5) dNil)) dNil))))) (dRet (dC (.bl false))) dNext))))))
    (dRet (dC (.bl true))))
def b14R2 : DTS := (dFor (diSq (dLst (dCons (dVar 3) (dCons (dCall f_odd_text (dCons (dVar 1) dNil)) dNil)))) (dgName 5) (dIfS (dNot (dB (dCall f_alike (dCons (dCall f_told (dCons (dVar 5) dNil)) (dCons (dCall f_due2 (dCons (dVar 5) dNil)) dNil))))) (dRet (dC (.bl false))) dNext))
def b14R1 : DTS := (dSeq (dFor (diRg1 (dCons (dOp rdAdd (dC (.int 1)) (dCall f_taken (dCons (dVar 1) (dCons (dC (.int 2)) dNil)))) dNil)) (dgName 4) (dAsg (dCall f_spoilt (dCons (dVar 1) (dCons (dVar 3) dNil))) (dgName 3)))
    b14R2)
theorem b14_eq : b_law14 = (dSeq (dFor (diRg1 (dCons (dC (.int 5)) dNil)) (dgName 2) (dSeq (dAsg (dCall f_text_of (dCons (dCall f_faces2 (dCons (dVar 1) (dCons (dCall f_pool (dCons (dVar 1) dNil)) (dCons (dC (.int 8)) dNil)))) dNil)) (dgName 3))
    (dSeq (dIfS (dNot (dB (dCall f_alike (dCons (dCall f_told (dCons (dVar 3) dNil)) (dCons (dCall f_due2 (dCons (dVar 3) dNil)) dNil))))) (dRet (dC (.bl false))) dNext)
    b14R1)))
    (dRet (dC (.bl true)))) := rfl
theorem call_text_of4 {XX : Exn → Prop} {Q : D → Prop} {fs : List Face} (hf : FacesOk fs) (h : Q (.str (textT fs))) : f_text_of XX [.lst (fs.map eF)] Q := ⟨_, rfl, fs, rfl, hf, h⟩
def st14 (s2 : Slot) (t : Str) : Rho := [.e, .v false .row, s2, .v true (.str t), .e, .e]
theorem rd_14R2 {DD : DEnds} {s2 : Slot} {t : Str} (hl : t.length ≤ 50000) (ht : PyData.strOk t = true) (hnx : ∀ (t : Str) (a b : Slot), DD.nx [.e, .v false .row, s2, .v true (.str t), a, b]) : b14R2 (fun _ => False) DD (st14 s2 t) := by
  unfold b14R2
  refine for_go ?_
  unfold st14
  simp
  refine call_odd_text fun o ol oo => ?_
  refine for_listS [t, o] .str (k := if (D.str o).flat = true then Kd.fr else Kd.nw) (n := true) (fun _ : Unit => st14 s2 t) (fun _ _ => True) () (by simp [D.flat, kn]) (fun Q h => h) rfl trivial (fun p a q b e _ => ?_) fun _ _ => hnx _ _ _
  have ha : a = t ∨ a = o := by
    have : a ∈ [t, o] := by rw [e]; simp
    simpa using this
  have ha1 : a.length ≤ 50000 := by rcases ha with rfl | rfl <;> omega
  have ha2 : PyData.strOk a = true := by rcases ha with rfl | rfl <;> assumption
  unfold st14
  simp
  refine call_told ha1 ha2 ?_
  refine call_due2 ha1 ha2 ?_
  refine call_alike (alk_res ha1 ha2) ?_
  simp
  repeat (first | exact Fgt.refl _ | apply Fgt.keep | apply Fgt.drop)
theorem rd_14R1 {DD : DEnds} {s2 : Slot} {t : Str} (hl : t.length ≤ 10000) (ht : PyData.strOk t = true) (hnx : ∀ (t : Str) (a b : Slot), DD.nx [.e, .v false .row, s2, .v true (.str t), a, b]) : b14R1 (fun _ => False) DD (st14 s2 t) := by
  unfold b14R1
  simp
  refine for_go ?_
  unfold st14
  simp
  intro v hv0 hv2
  refine ⟨by omega, by omega, ?_⟩
  refine for_rangeS 0 (1 + v).toNat (fun t : Str => st14 s2 t) (fun i t => PyData.strOk t = true ∧ t.length ≤ (if i = 0 then 10000 else if i = 1 then 20020 else 40060)) t (fun Q h => h) rfl ⟨ht, by simpa using hl⟩ (fun i t hi h => ?_) fun t h => rd_14R2 (by have := h.2; split at this <;> (try split at this) <;> omega) h.1 hnx
  obtain ⟨hf, hfl⟩ := h
  have hi2 : i = 0 ∨ i = 1 := by omega
  unfold st14
  simp
  refine call_spoilt (by rcases hi2 with rfl | rfl <;> simp at hfl <;> omega) hf fun t' h1 h2 => ?_
  refine ⟨t', ?_, h2, ?_⟩
  · repeat (first | exact Fgt.refl _ | apply Fgt.keep | apply Fgt.drop)
  · rcases hi2 with rfl | rfl <;> simp at hfl ⊢ <;> omega
theorem rd_law14 : RdL 4 b_law14 := by
  unfold RdL
  rw [b14_eq]
  simp
  refine for_rangeS 0 5 (fun _ : Unit => [.e, .v false .row, .e, .e, .e, .e]) (fun i _ => True) () (fun Q h => by simp; exact h) rfl trivial (fun i _ hi _ => ?_) fun _ _ => by simp
  simp
  refine call_pool fun l m hp => ?_
  refine call_faces2 8 hp rfl (by decide) (by decide) fun fs hfs hf8 => ?_
  try simp
  refine call_text_of4 hfs ?_
  have hT := textT_len hfs
  have hO := textT_ok hfs
  generalize textT fs = t at hT hO ⊢
  try simp
  refine call_told (by omega) hO ?_
  refine call_due2 (by omega) hO ?_
  refine call_alike (alk_res (by omega) hO) ?_
  refine ⟨rfl, rd_14R1 (s2 := .v true (.int (i : Int))) hT hO fun t a b => ?_⟩
  repeat (first | exact Fgt.refl _ | apply Fgt.keep | apply Fgt.drop)
end HD

set_option Elab.async false
set_option linter.all false
set_option maxRecDepth 100000
set_option maxHeartbeats 4000000
namespace HD
namespace K14
open PySem PySem.Spec PyProof.Rows L2
def top (i : Nat) : Stmt := PySem.Challenge.pw_fontfall_k14_texts_that_tell_no_case.main.body.getD i (.Pass ⟨0, 0, 0, 0⟩)
abbrev s_l_text_of : Stmt := top 28
abbrev N_l_text_of : List Str := ["_law_faces_here", "_law_rows", "_law_name", "_law_rank", "_law_signs", "_law_number_here"]
theorem sc_l_text_of : FnScope N_l_text_of ["_law_faces_here"] (defScope s_l_text_of) := ⟨rfl, rfl, rfl, by decide +kernel, rfl, by decide +kernel, by decide +kernel⟩
abbrev s_l_taken : Stmt := top 23
abbrev N_l_taken : List Str := ["_law_row", "_law_many", "_law_found", "_law_cell"]
theorem sc_l_taken : FnScope N_l_taken ["_law_row", "_law_many"] (defScope s_l_taken) := ⟨rfl, rfl, rfl, by decide +kernel, rfl, by decide +kernel, by decide +kernel⟩
abbrev s_l_names : Stmt := top 26
abbrev N_l_names : List Str := ["_law_row", "_law_many", "_law_turn", "_law_base", "_law_cut", "_law_k"]
theorem sc_l_names : FnScope N_l_names ["_law_row", "_law_many"] (defScope s_l_names) := ⟨rfl, rfl, rfl, by decide +kernel, rfl, by decide +kernel, by decide +kernel⟩
abbrev s_l_faces : Stmt := top 27
abbrev N_l_faces : List Str := ["_law_row", "_law_pool_here", "_law_most", "_law_names_here", "_law_found", "_law_name", "_law_many", "_law_letters", "_law_marks", "_law_sign"]
theorem sc_l_faces : FnScope N_l_faces ["_law_row", "_law_pool_here", "_law_most"] (defScope s_l_faces) := ⟨rfl, rfl, rfl, by decide +kernel, rfl, by decide +kernel, by decide +kernel⟩
abbrev s_l_pool : Stmt := top 25
abbrev N_l_pool : List Str := ["_law_row", "_law_begin", "_law_letters", "_law_marks", "_law_k"]
theorem sc_l_pool : FnScope N_l_pool ["_law_row"] (defScope s_l_pool) := ⟨rfl, rfl, rfl, by decide +kernel, rfl, by decide +kernel, by decide +kernel⟩
abbrev s_l_alike : Stmt := top 24
abbrev N_l_alike : List Str := ["_law_found", "_law_due_here", "_law_k"]
theorem sc_l_alike : FnScope N_l_alike ["_law_found", "_law_due_here"] (defScope s_l_alike) := ⟨rfl, rfl, rfl, by decide +kernel, rfl, by decide +kernel, by decide +kernel⟩
abbrev s_l_number : Stmt := top 30
abbrev N_l_number : List Str := ["_law_word", "_law_sign"]
theorem sc_l_number : FnScope N_l_number ["_law_word"] (defScope s_l_number) := ⟨rfl, rfl, rfl, by decide +kernel, rfl, by decide +kernel, by decide +kernel⟩
abbrev s_l_wrong : Stmt := top 29
abbrev N_l_wrong : List Str := ["_law_faces_here", "_law_number_here", "_law_name", "_law_rank", "_law_signs", "_law_letters", "_law_good", "_law_sign", "_law_face"]
theorem sc_l_wrong : FnScope N_l_wrong ["_law_faces_here"] (defScope s_l_wrong) := ⟨rfl, rfl, rfl, by decide +kernel, rfl, by decide +kernel, by decide +kernel⟩
abbrev s_l_due : Stmt := top 31
abbrev N_l_due : List Str := ["_law_text", "_law_faces_here", "_law_rows", "_law_k", "_law_words", "_law_numbers", "_law_name", "_law_letters", "_law_wrong_here", "_law_word", "_law_sign"]
theorem sc_l_due : FnScope N_l_due ["_law_text"] (defScope s_l_due) := ⟨rfl, rfl, rfl, by decide +kernel, rfl, by decide +kernel, by decide +kernel⟩
abbrev s_is_name : Stmt := top 15
abbrev N_is_name : List Str := ["text", "sign"]
theorem sc_is_name : FnScope N_is_name ["text"] (defScope s_is_name) := ⟨rfl, rfl, rfl, by decide +kernel, rfl, by decide +kernel, by decide +kernel⟩
abbrev s_number_of : Stmt := top 20
abbrev N_number_of : List Str := ["word", "row", "sign"]
theorem sc_number_of : FnScope N_number_of ["word", "row"] (defScope s_number_of) := ⟨rfl, rfl, rfl, by decide +kernel, rfl, by decide +kernel, by decide +kernel⟩
abbrev s_are_signs : Stmt := top 16
abbrev N_are_signs : List Str := ["signs", "sign", "k"]
theorem sc_are_signs : FnScope N_are_signs ["signs"] (defScope s_are_signs) := ⟨rfl, rfl, rfl, by decide +kernel, rfl, by decide +kernel, by decide +kernel⟩
abbrev s_c___init : Stmt := inClass (top 17) 0
abbrev N_c___init : List Str := ["self", "faces", "number", "name", "rank", "signs", "good", "face"]
theorem sc_c___init : FnScope N_c___init ["self", "faces"] (defScope s_c___init) := ⟨rfl, rfl, rfl, by decide +kernel, rfl, by decide +kernel, by decide +kernel⟩
abbrev s_read : Stmt := top 21
abbrev N_read : List Str := ["text", "faces", "rows", "row", "words", "numbers", "word"]
theorem sc_read : FnScope N_read ["text"] (defScope s_read) := ⟨rfl, rfl, rfl, by decide +kernel, rfl, by decide +kernel, by decide +kernel⟩
abbrev s_c_faces : Stmt := inClass (top 17) 1
abbrev N_c_faces : List Str := ["self"]
theorem sc_c_faces : FnScope N_c_faces ["self"] (defScope s_c_faces) := ⟨rfl, rfl, rfl, by decide +kernel, rfl, by decide +kernel, by decide +kernel⟩
abbrev s_l_told : Stmt := top 32
abbrev N_l_told : List Str := ["_law_text", "_law_case", "e", "_law_other", "_law_kinds"]
theorem sc_l_told : FnScope N_l_told ["_law_text"] (defScope s_l_told) := ⟨rfl, rfl, rfl, by decide +kernel, rfl, by decide +kernel, by decide +kernel⟩
abbrev s_l_spoilt : Stmt := top 33
abbrev N_l_spoilt : List Str := ["_law_row", "_law_text", "_law_way", "_law_at", "_law_whole", "_law_signs", "_law_sign", "_law_rows", "_law_k", "_law_other", "_law_rest", "_law_words", "_law_j", "_law_odd"]
theorem sc_l_spoilt : FnScope N_l_spoilt ["_law_row", "_law_text"] (defScope s_l_spoilt) := ⟨rfl, rfl, rfl, by decide +kernel, rfl, by decide +kernel, by decide +kernel⟩
abbrev s_l_odd_text : Stmt := top 34
abbrev N_l_odd_text : List Str := ["_law_row", "_law_some", "_law_rows", "_law_k"]
theorem sc_l_odd_text : FnScope N_l_odd_text ["_law_row"] (defScope s_l_odd_text) := ⟨rfl, rfl, rfl, by decide +kernel, rfl, by decide +kernel, by decide +kernel⟩
abbrev s_law : Stmt := top 35
abbrev N_law : List Str := ["_law_script", "_law_row", "_law_turn", "_law_text", "_law_change", "_law_some"]
theorem sc_law : FnScope N_law ["_law_script"] (defScope s_law) := ⟨rfl, rfl, rfl, by decide +kernel, rfl, by decide +kernel, by decide +kernel⟩
abbrev s_BadCase_init : Stmt := inClass (top 3) 0
abbrev N_BadCase_init : List Str := ["self", "word", "number"]
theorem sc_BadCase_init : FnScope N_BadCase_init ["self", "word", "number"] (defScope s_BadCase_init) := ⟨rfl, rfl, rfl, by decide +kernel, rfl, by decide +kernel, by decide +kernel⟩
abbrev s_BadSign_init : Stmt := inClass (top 4) 0
abbrev N_BadSign_init : List Str := ["self", "place"]
theorem sc_BadSign_init : FnScope N_BadSign_init ["self", "place"] (defScope s_BadSign_init) := ⟨rfl, rfl, rfl, by decide +kernel, rfl, by decide +kernel, by decide +kernel⟩
abbrev s_BadRow_init : Stmt := inClass (top 5) 0
abbrev N_BadRow_init : List Str := ["self", "place"]
theorem sc_BadRow_init : FnScope N_BadRow_init ["self", "place"] (defScope s_BadRow_init) := ⟨rfl, rfl, rfl, by decide +kernel, rfl, by decide +kernel, by decide +kernel⟩
abbrev s_BadText_init : Stmt := inClass (top 7) 0
abbrev N_BadText_init : List Str := ["self", "row"]
theorem sc_BadText_init : FnScope N_BadText_init ["self", "row"] (defScope s_BadText_init) := ⟨rfl, rfl, rfl, by decide +kernel, rfl, by decide +kernel, by decide +kernel⟩
section
variable {P : Program} {w : World} {K : PySem.W.Frag} {mg : Str → Option Value} {base : Heap} {G : Gp} {f : Addr} {fd : FuncData}
theorem ok_BadCase_init {C F : Addr} (Fn : Fun K "__init__" "BadCase.__init__" s_BadCase_init f fd) (mx : mg "FaceError" = some (.ref F)) (FE : FeC K F) (T : OexC K C) (n0 : PySem.W.findIn K (.ref C) "word" = some none) (n1 : PySem.W.findIn K (.ref C) "number" = some none) : FnOk P w K mg base CX0 1 f fd ["self", "word", "number"] (spX2 C "word" "number") :=
  fnX2 Fn sc_BadCase_init rfl rfl T n0 n1 fun cdv A outer s H E =>
    (pss_cons (ps_expr (pe_feinit (by rfl) mx FE (pa_cons (pv 0) (pa_cons (pv 1) pa_nil)))) (pss_cons (ps_ost (pv 0) (pv 1)) (pss_one (ps_ost (pv 0) (pv 2)))))
theorem ok_BadSign_init {C F : Addr} (Fn : Fun K "__init__" "BadSign.__init__" s_BadSign_init f fd) (mx : mg "FaceError" = some (.ref F)) (FE : FeC K F) (T : OexC K C) (n0 : PySem.W.findIn K (.ref C) "place" = some none) : FnOk P w K mg base CX0 1 f fd ["self", "place"] (spX1 C "place") :=
  fnX1 Fn sc_BadSign_init rfl rfl T n0 fun cdv A outer s H E =>
    (pss_cons (ps_expr (pe_feinit (by rfl) mx FE (pa_cons (pv 0) (pa_cons (pv 1) pa_nil)))) (pss_one (ps_ost (pv 0) (pv 1))))
theorem ok_BadRow_init {C F : Addr} (Fn : Fun K "__init__" "BadRow.__init__" s_BadRow_init f fd) (mx : mg "FaceError" = some (.ref F)) (FE : FeC K F) (T : OexC K C) (n0 : PySem.W.findIn K (.ref C) "place" = some none) : FnOk P w K mg base CX0 1 f fd ["self", "place"] (spX1 C "place") :=
  fnX1 Fn sc_BadRow_init rfl rfl T n0 fun cdv A outer s H E =>
    (pss_cons (ps_expr (pe_feinit (by rfl) mx FE (pa_cons (pv 0) (pa_cons (pv 1) pa_nil)))) (pss_one (ps_ost (pv 0) (pv 1))))
theorem ok_BadText_init {C F : Addr} (Fn : Fun K "__init__" "BadText.__init__" s_BadText_init f fd) (mx : mg "FaceError" = some (.ref F)) (FE : FeC K F) (T : OexC K C) (n0 : PySem.W.findIn K (.ref C) "row" = some none) : FnOk P w K mg base CX0 1 f fd ["self", "row"] (spX1 C "row") :=
  fnX1 Fn sc_BadText_init rfl rfl T n0 fun cdv A outer s H E =>
    (pss_cons (ps_expr (pe_feinit (by rfl) mx FE (pa_cons (pv 0) (pa_cons (pv 1) pa_nil)))) (pss_one (ps_ost (pv 0) (pv 1))))
theorem ok_l_text_of (F : Fun K "_law_text_of" "_law_text_of" s_l_text_of f fd) (m_str : mg "str" = none) : FnOk P w K mg base CX0 1 f fd ["_law_faces_here"] (spD G f_text_of) :=
  fnD F sc_l_text_of (fun _ _ _ h => len1 h) (fun cdv A outer s H E hr =>
    (pssd_cons (psd_setO (i := 1) sc_l_text_of.nd rfl (Or.inl rfl) (pd_lst pad_nil))
    (pssd_cons (psd_for (js := [2, 3, 4]) PassesOwn.never rfl (pid_sq (pd_var 0)) (pgd_tup rfl (pgsd_cons (pgd_name (i := 2) sc_l_text_of.nd rfl (Or.inl rfl)) (pgsd_cons (pgd_name (i := 3) sc_l_text_of.nd rfl (Or.inl rfl)) (pgsd_cons (pgd_name (i := 4) sc_l_text_of.nd rfl (Or.inl rfl)) pgsd_nil))))
    (pssd_one (psd_app (pv 1) (pd_op od_add (pd_op od_add (pd_op od_add pd_str (pd_var 2)) pd_str) (pd_join pd_str (pd_lc (own := [("_law_number_here", 5)]) (js := [5]) rfl sc_l_text_of.nd (pid_sq (pd_op od_add (pd_tup (pad_cons (pd_var 3) pad_nil)) (pd_var 4))) (blkOk_by (N := N_l_text_of) (sc := defScope s_l_text_of) (by decide +kernel)) (fun _ _ _ _ _ => (pgd_name (i := 5) sc_l_text_of.nd rfl (Or.inl rfl))) (fun _ _ _ _ _ => ptsd_nil) (fun _ _ _ _ _ => (pd_callTy cd_str (by rfl) m_str bt_str (pad_cons (pd_var 5) pad_nil))) (by decide)))))))
    (pssd_one (psd_ret (pd_join pd_str (pd_var 1))))))) rd_text_of
theorem ok_l_taken (hK : G.K = K) (F : Fun K "_law_taken" "_law_taken" s_l_taken f fd) (m_len : mg "len" = none) : FnOk P w K mg base CX0 1 f fd ["_law_row", "_law_many"] (spD G f_taken) :=
  fnTaken F sc_l_taken rfl rfl hK fun cdv A outer s H E =>
    (pss_cons (ps_if (pt_cmpR op_gt (pe_ix ix_list (pv 0) pe_int (fun _ _ => rfl)) pe_int (nomark _)) (pss_cons (ps_asg (pe_op op_mod (pe_ix ix_list (pv 0) pe_int (fun _ _ => rfl)) (pv 1)) (pg_name (i := 2) sc_l_taken.nd rfl (Or.inl rfl)))
    (pss_cons (ps_asg (pe_op op_fdiv (pe_ix ix_list (pv 0) pe_int (fun _ _ => rfl)) (pv 1)) (pg_sub (pv 0) pe_int set_list (fun _ => rfl)))
    (pss_one (ps_ret (pv 2))))) pss_nil)
    (pss_cons (ps_asg (pe_op op_add (pe_ix ix_list (pv 0) pe_int (fun _ _ => rfl)) pe_int) (pg_sub (pv 0) pe_int set_list (fun _ => rfl)))
    (pss_cons (ps_if (pt_cmpR op_gt (pe_ix ix_list (pv 0) pe_int (fun _ _ => rfl)) (pe_callB call_len_seq (by rfl) m_len bt_len (pa_cons (pe_ix ix_list (pv 0) pe_int (fun _ _ => rfl)) pa_nil)) (nomark _)) (pss_cons (ps_asg (pe_op op_mod (pe_op op_add (pe_op op_mul (pe_ix ix_list (pv 0) pe_int (fun _ _ => rfl)) pe_int) pe_int) pe_int) (pg_sub (pv 0) pe_int set_list (fun _ => rfl)))
    (pss_one (ps_ret (pe_op op_mod (pe_op op_fdiv (pe_ix ix_list (pv 0) pe_int (fun _ _ => rfl)) pe_int) (pv 1))))) pss_nil)
    (pss_cons (ps_asg (pe_ix ix_list (pe_ix ix_list (pv 0) pe_int (fun _ _ => rfl)) (pe_op op_sub (pe_ix ix_list (pv 0) pe_int (fun _ _ => rfl)) pe_int) (fun _ _ => rfl)) (pg_name (i := 3) sc_l_taken.nd rfl (Or.inl rfl)))
    (pss_cons (ps_asg (pe_op op_mod (pe_op op_add (pe_op op_add (pe_op op_mul (pe_ix ix_list (pv 0) pe_int (fun _ _ => rfl)) pe_int) (pv 3)) pe_int) pe_int) (pg_sub (pv 0) pe_int set_list (fun _ => rfl)))
    (pss_cons (ps_asg (pe_ifExp (pt_cmpR op_ge (pv 3) (pe_op op_pow pe_int pe_int) (nomark _)) (pe_op op_fdiv (pv 3) (pv 1)) pe_int) (pg_sub (pv 0) pe_int set_list (fun _ => rfl)))
    (pss_one (ps_ret (pe_op op_mod (pv 3) (pv 1))))))))))
theorem ok_l_names (F : Fun K "_law_names" "_law_names" s_l_names f fd) (m_range : mg "range" = none) (C__law_taken : Cal P w K mg base CX0 1 "_law_taken" ["_law_row", "_law_many"] (spD G f_taken)) : FnOk P w K mg base CX0 2 f fd ["_law_row", "_law_many"] (spD G f_names) :=
  fnD F sc_l_names (fun _ _ _ h => len2 h) (fun cdv A outer s H E hr =>
    (pssd_cons (psd_set (i := 2) sc_l_names.nd rfl (Or.inr rfl) (pd_call C__law_taken (hr.mono (by decide)) (pad_cons (pd_var 0) (pad_cons pd_int pad_nil))))
    (pssd_cons (psd_set (i := 3) sc_l_names.nd rfl (Or.inr rfl) (pd_join pd_str (pd_lc (own := [("_law_k", 5)]) (js := [5]) rfl sc_l_names.nd (pid_range1 (by rfl) m_range (pad_cons pd_int pad_nil)) (blkOk_by (N := N_l_names) (sc := defScope s_l_names) (by decide +kernel)) (fun _ _ _ _ _ => (pgd_name (i := 5) sc_l_names.nd rfl (Or.inl rfl))) (fun _ _ _ _ _ => ptsd_nil) (fun _ _ _ _ _ => (pd_ix pd_str (pd_op od_mod (pd_op od_add (pd_var 2) (pd_op od_mul pd_int (pd_var 5))) pd_int))) (by decide))))
    (pssd_cons (psd_set (i := 4) sc_l_names.nd rfl (Or.inr rfl) (pd_call C__law_taken (hr.mono (by decide)) (pad_cons (pd_var 0) (pad_cons pd_int pad_nil))))
    (pssd_cons (psd_if (ptd_cmp (od_eq hr.units) (pd_call C__law_taken (hr.mono (by decide)) (pad_cons (pd_var 0) (pad_cons pd_int pad_nil))) pd_int) (pssd_one (psd_ret (pd_lc (own := [("_law_k", 5)]) (js := [5]) rfl sc_l_names.nd (pid_range1 (by rfl) m_range (pad_cons (pd_var 1) pad_nil)) (blkOk_by (N := N_l_names) (sc := defScope s_l_names) (by decide +kernel)) (fun _ _ _ _ _ => (pgd_name (i := 5) sc_l_names.nd rfl (Or.inl rfl))) (fun _ _ _ _ _ => ptsd_nil) (fun _ _ _ _ _ => (pd_slice (pd_var 3) pod_no (pod_some (pd_op od_add (pd_var 5) pd_int)))) (by decide)))) pssd_nil)
    (pssd_one (psd_ret (pd_lc (own := [("_law_k", 5)]) (js := [5]) rfl sc_l_names.nd (pid_range1 (by rfl) m_range (pad_cons (pd_var 1) pad_nil)) (blkOk_by (N := N_l_names) (sc := defScope s_l_names) (by decide +kernel)) (fun _ _ _ _ _ => (pgd_name (i := 5) sc_l_names.nd rfl (Or.inl rfl))) (fun _ _ _ _ _ => ptsd_nil) (fun _ _ _ _ _ => (pd_op od_add (pd_slice (pd_var 3) pod_no (pod_some (pd_var 4))) (pd_ix pd_str (pd_op od_mod (pd_op od_add (pd_op od_add (pd_var 2) pd_int) (pd_op od_mul pd_int (pd_var 5))) pd_int)))) (by decide))))))))) rd_names
theorem ok_l_faces (F : Fun K "_law_faces" "_law_faces" s_l_faces f fd) (m_min : mg "min" = none) (m_tuple : mg "tuple" = none) (C__law_names : Cal P w K mg base CX0 2 "_law_names" ["_law_row", "_law_many"] (spD G f_names)) (C__law_taken : Cal P w K mg base CX0 1 "_law_taken" ["_law_row", "_law_many"] (spD G f_taken)) : FnOk P w K mg base CX0 3 f fd ["_law_row", "_law_pool_here", "_law_most"] (spD G f_faces2) :=
  fnD F sc_l_faces (fun _ _ _ h => len3 h) (fun cdv A outer s H E hr =>
    (pssd_cons (psd_set (i := 3) sc_l_faces.nd rfl (Or.inl rfl) (pd_call C__law_names (hr.mono (by decide)) (pad_cons (pd_var 0) (pad_cons (pd_ix (pd_lst (pad_cons (pd_call C__law_taken (hr.mono (by decide)) (pad_cons (pd_var 0) (pad_cons (pd_op od_add (pd_var 2) pd_int) pad_nil))) (pad_cons (pd_op od_add pd_int (pd_call C__law_taken (hr.mono (by decide)) (pad_cons (pd_var 0) (pad_cons (pd_callB (cd_min rfl) (by rfl) m_min bt_min (pad_cons (pd_var 2) (pad_cons pd_int pad_nil))) pad_nil)))) pad_nil))) (pd_call C__law_taken (hr.mono (by decide)) (pad_cons (pd_var 0) (pad_cons pd_int pad_nil)))) pad_nil))))
    (pssd_cons (psd_setO (i := 4) sc_l_faces.nd rfl (Or.inl rfl) (pd_lst pad_nil))
    (pssd_cons (psd_for (js := [5]) PassesOwn.never rfl (pid_sq (pd_var 3)) (pgd_name (i := 5) sc_l_faces.nd rfl (Or.inl rfl))
    (pssd_cons (psd_set (i := 6) sc_l_faces.nd rfl (Or.inr rfl) (pd_op od_add pd_int (pd_call C__law_taken (hr.mono (by decide)) (pad_cons (pd_var 0) (pad_cons pd_int pad_nil)))))
    (pssd_cons (psd_setLc (i := 7) (own := [("_law_sign", 9)]) (js := [9]) rfl sc_l_faces.nd rfl rfl (sw_true rfl rfl rfl (by decide +kernel)) (pid_sq (pd_ix (pd_var 1) pd_int)) (blkOk_by (N := N_l_faces) (sc := defScope s_l_faces) (by decide +kernel)) (fun _ _ _ _ _ => (pgd_name (i := 9) sc_l_faces.nd rfl (Or.inl rfl))) (fun _ _ _ _ _ => (ptsd_one (ptd_cmp od_gt (pd_call C__law_taken (hr.mono (by decide)) (pad_cons (pd_var 0) (pad_cons (pd_var 6) pad_nil))) pd_int))) (fun _ _ _ _ _ => (pd_var 9)) (by decide))
    (pssd_cons (psd_setLc (i := 8) (own := [("_law_sign", 9)]) (js := [9]) rfl sc_l_faces.nd rfl rfl (sw_true rfl rfl rfl (by decide +kernel)) (pid_sq (pd_ix (pd_var 1) pd_int)) (blkOk_by (N := N_l_faces) (sc := defScope s_l_faces) (by decide +kernel)) (fun _ _ _ _ _ => (pgd_name (i := 9) sc_l_faces.nd rfl (Or.inl rfl))) (fun _ _ _ _ _ => (ptsd_one (ptd_cmp od_gt (pd_call C__law_taken (hr.mono (by decide)) (pad_cons (pd_var 0) (pad_cons pd_int pad_nil))) pd_int))) (fun _ _ _ _ _ => (pd_var 9)) (by decide))
    (pssd_one (psd_app (pv 4) (pd_tup (pad_cons (pd_var 5) (pad_cons (pd_ix (pd_lst (pad_cons (pd_call C__law_taken (hr.mono (by decide)) (pad_cons (pd_var 0) (pad_cons pd_int pad_nil))) (pad_cons (pd_call C__law_taken (hr.mono (by decide)) (pad_cons (pd_var 0) (pad_cons pd_int pad_nil))) pad_nil))) (pd_call C__law_taken (hr.mono (by decide)) (pad_cons (pd_var 0) (pad_cons pd_int pad_nil)))) (pad_cons (pd_callTy cd_tuple (by rfl) m_tuple bt_tuple (pad_cons (pd_op od_add (pd_var 7) (pd_var 8)) pad_nil)) pad_nil))))))))))
    (pssd_one (psd_retV (i := 4) (pv 4))))))) rd_faces2
theorem ok_l_pool (F : Fun K "_law_pool" "_law_pool" s_l_pool f fd) (m_range : mg "range" = none) (m_set : mg "set" = none) (m_sorted : mg "sorted" = none) (C__law_taken : Cal P w K mg base CX0 1 "_law_taken" ["_law_row", "_law_many"] (spD G f_taken)) : FnOk P w K mg base CX0 2 f fd ["_law_row"] (spD G f_pool) :=
  fnD F sc_l_pool (fun _ _ _ h => len1 h) (fun cdv A outer s H E hr =>
    (pssd_cons (psd_set (i := 1) sc_l_pool.nd rfl (Or.inr rfl) (pd_call C__law_taken (hr.mono (by decide)) (pad_cons (pd_var 0) (pad_cons pd_int pad_nil))))
    (pssd_cons (psd_setLc (i := 2) (own := [("_law_k", 4)]) (js := [4]) rfl sc_l_pool.nd rfl rfl (sw_true rfl rfl rfl (by decide +kernel)) (pid_range1 (by rfl) m_range (pad_cons (pd_op od_add pd_int (pd_ix (pd_lst (pad_cons (pd_call C__law_taken (hr.mono (by decide)) (pad_cons (pd_var 0) (pad_cons pd_int pad_nil))) (pad_cons (pd_call C__law_taken (hr.mono (by decide)) (pad_cons (pd_var 0) (pad_cons pd_int pad_nil))) pad_nil))) (pd_op od_div (pd_call C__law_taken (hr.mono (by decide)) (pad_cons (pd_var 0) (pad_cons pd_int pad_nil))) pd_int))) pad_nil)) (blkOk_by (N := N_l_pool) (sc := defScope s_l_pool) (by decide +kernel)) (fun _ _ _ _ _ => (pgd_name (i := 4) sc_l_pool.nd rfl (Or.inl rfl))) (fun _ _ _ _ _ => ptsd_nil) (fun _ _ _ _ _ => (pd_op od_add (pd_var 1) (pd_var 4))) (by decide))
    (pssd_cons (psd_setLc (i := 3) (own := [("_law_k", 4)]) (js := [4]) rfl sc_l_pool.nd rfl rfl (sw_true rfl rfl rfl (by decide +kernel)) (pid_range1 (by rfl) m_range (pad_cons pd_int pad_nil)) (blkOk_by (N := N_l_pool) (sc := defScope s_l_pool) (by decide +kernel)) (fun _ _ _ _ _ => (pgd_name (i := 4) sc_l_pool.nd rfl (Or.inl rfl))) (fun _ _ _ _ _ => ptsd_nil) (fun _ _ _ _ _ => (pd_op od_add (pd_op od_add pd_int (pd_call C__law_taken (hr.mono (by decide)) (pad_cons (pd_var 0) (pad_cons pd_int pad_nil)))) (pd_var 4))) (by decide))
    (pssd_cons (psd_if (ptd_cmp (od_eq hr.units) (pd_call C__law_taken (hr.mono (by decide)) (pad_cons (pd_var 0) (pad_cons pd_int pad_nil))) pd_int) (pssd_cons (psd_set (i := 2) sc_l_pool.nd rfl (Or.inl rfl) (pd_op od_add (pd_var 2) (pd_lst (pad_cons pd_int (pad_cons pd_int pad_nil)))))
    (pssd_one (psd_set (i := 3) sc_l_pool.nd rfl (Or.inl rfl) (pd_op od_add (pd_var 3) (pd_lst (pad_cons pd_int (pad_cons pd_int pad_nil))))))) pssd_nil)
    (pssd_one (psd_ret (pd_tup (pad_cons (pd_sortset rfl (by rfl) m_sorted (by rfl) m_set (pd_var 2)) (pad_cons (pd_sortset rfl (by rfl) m_sorted (by rfl) m_set (pd_var 3)) pad_nil)))))))))) rd_pool
theorem ok_l_alike (F : Fun K "_law_alike" "_law_alike" s_l_alike f fd) (hm : mg "_law_alike" = some (.ref f)) (hk : PySem.W.keepIn K (.ref f) = true) (hb : Binds K fd ["_law_found", "_law_due_here"] []) (m_bool : mg "bool" = none) (m_int : mg "int" = none) (m_isinstance : mg "isinstance" = none) (m_len : mg "len" = none) (m_list : mg "list" = none) (m_range : mg "range" = none) (m_str : mg "str" = none) (m_tuple : mg "tuple" = none) : ∀ n : Nat, FnOk P w K mg base CX0 (n + 1) f fd ["_law_found", "_law_due_here"] (spD G (f_alk n))
  | 0 => by
    have C_rec : Cal P w K mg base CX0 0 "_law_alike" ["_law_found", "_law_due_here"] (spD G fun _ _ _ => False) := ⟨f, fd, hm, hk, hb, fnFalse⟩
    exact fnD F sc_l_alike (fun _ _ _ h => len2 h) (fun cdv A outer s H E hr =>
    (pssd_cons (psd_if (PW.pt (pwd_or (pt_of (pd_isi (by rfl) m_isinstance (pd_var 1) (by rfl) m_tuple bt_tuple)) (pwd_or1 (pt_of (pd_isi (by rfl) m_isinstance (pd_var 1) (by rfl) m_list bt_list))))) (pssd_cons (psd_if (PW.pt (pwd_or (ptd_cmp (od_ne hr.units) (pd_isi (by rfl) m_isinstance (pd_var 0) (by rfl) m_tuple bt_tuple) (pd_isi (by rfl) m_isinstance (pd_var 1) (by rfl) m_tuple bt_tuple)) (pwd_or1 (ptd_not (pt_of (pd_isi2 (by rfl) m_isinstance (pd_var 0) (by rfl) m_tuple bt_tuple (by rfl) m_list bt_list)))))) (pssd_one (psd_ret pd_bl)) pssd_nil)
    (pssd_cons (psd_if (ptd_cmp (od_ne hr.units) (pd_callB cd_len (by rfl) m_len bt_len (pad_cons (pd_var 0) pad_nil)) (pd_callB cd_len (by rfl) m_len bt_len (pad_cons (pd_var 1) pad_nil))) (pssd_one (psd_ret pd_bl)) pssd_nil)
    (pssd_one (psd_ret (pd_cmp (od_eq hr.units) (pd_lc (own := [("_law_k", 2)]) (js := [2]) rfl sc_l_alike.nd (pid_range1 (by rfl) m_range (pad_cons (pd_callB cd_len (by rfl) m_len bt_len (pad_cons (pd_var 1) pad_nil)) pad_nil)) (blkOk_by (N := N_l_alike) (sc := defScope s_l_alike) (by decide +kernel)) (fun _ _ _ _ _ => (pgd_name (i := 2) sc_l_alike.nd rfl (Or.inl rfl))) (fun _ _ _ _ _ => (ptsd_one (ptd_not (pt_of (pd_call C_rec (hr.mono (Nat.le_refl _)) (pad_cons (pd_ix (pd_var 0) (pd_var 2)) (pad_cons (pd_ix (pd_var 1) (pd_var 2)) pad_nil))))))) (fun _ _ _ _ _ => (pd_var 2)) (by decide)) (pd_lst pad_nil)))))) pssd_nil)
    (pssd_cons (psd_if (PW.pt (pwd_or (ptd_cmp od_is (pd_var 1) pd_non) (pwd_or1 (ptd_cmp od_is (pd_var 0) pd_non)))) (pssd_one (psd_ret (pd_and (pd_cmp od_is (pd_var 1) pd_non) (pd_one (pd_cmp od_is (pd_var 0) pd_non))))) pssd_nil)
    (pssd_cons (psd_if (PW.pt (pwd_or (pt_of (pd_isi (by rfl) m_isinstance (pd_var 1) (by rfl) m_bool bt_bool)) (pwd_or1 (pt_of (pd_isi (by rfl) m_isinstance (pd_var 0) (by rfl) m_bool bt_bool))))) (pssd_one (psd_ret (pd_and (pd_isi (by rfl) m_isinstance (pd_var 1) (by rfl) m_bool bt_bool) (pd_and (pd_isi (by rfl) m_isinstance (pd_var 0) (by rfl) m_bool bt_bool) (pd_one (pd_cmp (od_eq hr.units) (pd_var 0) (pd_var 1))))))) pssd_nil)
    (pssd_cons (psd_if (pt_of (pd_isi (by rfl) m_isinstance (pd_var 1) (by rfl) m_str bt_str)) (pssd_one (psd_ret (pd_and (pd_isi (by rfl) m_isinstance (pd_var 0) (by rfl) m_str bt_str) (pd_one (pd_cmp (od_eq hr.units) (pd_var 0) (pd_var 1)))))) pssd_nil)
    (pssd_one (psd_ret (pd_and (pd_isi (by rfl) m_isinstance (pd_var 0) (by rfl) m_int bt_int) (pd_one (pd_cmp (od_eq hr.units) (pd_var 0) (pd_var 1))))))))))) rd_alike0
  | n + 1 => by
    have C_rec : Cal P w K mg base CX0 (n + 1) "_law_alike" ["_law_found", "_law_due_here"] (spD G (f_alk n)) := ⟨f, fd, hm, hk, hb, ok_l_alike F hm hk hb m_bool m_int m_isinstance m_len m_list m_range m_str m_tuple n⟩
    exact fnD F sc_l_alike (fun _ _ _ h => len2 h) (fun cdv A outer s H E hr =>
    (pssd_cons (psd_if (PW.pt (pwd_or (pt_of (pd_isi (by rfl) m_isinstance (pd_var 1) (by rfl) m_tuple bt_tuple)) (pwd_or1 (pt_of (pd_isi (by rfl) m_isinstance (pd_var 1) (by rfl) m_list bt_list))))) (pssd_cons (psd_if (PW.pt (pwd_or (ptd_cmp (od_ne hr.units) (pd_isi (by rfl) m_isinstance (pd_var 0) (by rfl) m_tuple bt_tuple) (pd_isi (by rfl) m_isinstance (pd_var 1) (by rfl) m_tuple bt_tuple)) (pwd_or1 (ptd_not (pt_of (pd_isi2 (by rfl) m_isinstance (pd_var 0) (by rfl) m_tuple bt_tuple (by rfl) m_list bt_list)))))) (pssd_one (psd_ret pd_bl)) pssd_nil)
    (pssd_cons (psd_if (ptd_cmp (od_ne hr.units) (pd_callB cd_len (by rfl) m_len bt_len (pad_cons (pd_var 0) pad_nil)) (pd_callB cd_len (by rfl) m_len bt_len (pad_cons (pd_var 1) pad_nil))) (pssd_one (psd_ret pd_bl)) pssd_nil)
    (pssd_one (psd_ret (pd_cmp (od_eq hr.units) (pd_lc (own := [("_law_k", 2)]) (js := [2]) rfl sc_l_alike.nd (pid_range1 (by rfl) m_range (pad_cons (pd_callB cd_len (by rfl) m_len bt_len (pad_cons (pd_var 1) pad_nil)) pad_nil)) (blkOk_by (N := N_l_alike) (sc := defScope s_l_alike) (by decide +kernel)) (fun _ _ _ _ _ => (pgd_name (i := 2) sc_l_alike.nd rfl (Or.inl rfl))) (fun _ _ _ _ _ => (ptsd_one (ptd_not (pt_of (pd_call C_rec (hr.mono (Nat.le_refl _)) (pad_cons (pd_ix (pd_var 0) (pd_var 2)) (pad_cons (pd_ix (pd_var 1) (pd_var 2)) pad_nil))))))) (fun _ _ _ _ _ => (pd_var 2)) (by decide)) (pd_lst pad_nil)))))) pssd_nil)
    (pssd_cons (psd_if (PW.pt (pwd_or (ptd_cmp od_is (pd_var 1) pd_non) (pwd_or1 (ptd_cmp od_is (pd_var 0) pd_non)))) (pssd_one (psd_ret (pd_and (pd_cmp od_is (pd_var 1) pd_non) (pd_one (pd_cmp od_is (pd_var 0) pd_non))))) pssd_nil)
    (pssd_cons (psd_if (PW.pt (pwd_or (pt_of (pd_isi (by rfl) m_isinstance (pd_var 1) (by rfl) m_bool bt_bool)) (pwd_or1 (pt_of (pd_isi (by rfl) m_isinstance (pd_var 0) (by rfl) m_bool bt_bool))))) (pssd_one (psd_ret (pd_and (pd_isi (by rfl) m_isinstance (pd_var 1) (by rfl) m_bool bt_bool) (pd_and (pd_isi (by rfl) m_isinstance (pd_var 0) (by rfl) m_bool bt_bool) (pd_one (pd_cmp (od_eq hr.units) (pd_var 0) (pd_var 1))))))) pssd_nil)
    (pssd_cons (psd_if (pt_of (pd_isi (by rfl) m_isinstance (pd_var 1) (by rfl) m_str bt_str)) (pssd_one (psd_ret (pd_and (pd_isi (by rfl) m_isinstance (pd_var 0) (by rfl) m_str bt_str) (pd_one (pd_cmp (od_eq hr.units) (pd_var 0) (pd_var 1)))))) pssd_nil)
    (pssd_one (psd_ret (pd_and (pd_isi (by rfl) m_isinstance (pd_var 0) (by rfl) m_int bt_int) (pd_one (pd_cmp (od_eq hr.units) (pd_var 0) (pd_var 1))))))))))) (rd_alike n)
theorem ok_l_number (F : Fun K "_law_number" "_law_number" s_l_number f fd) (m_int : mg "int" = none) (m_len : mg "len" = none) : FnOk P w K mg base CX0 1 f fd ["_law_word"] (spD G f_number) :=
  fnD F sc_l_number (fun _ _ _ h => len1 h) (fun cdv A outer s H E hr =>
    (pssd_cons (psd_if (PW.pt (pwd_or (ptd_not (ptd_chain od_le od_le pd_int (pd_callB cd_len (by rfl) m_len bt_len (pad_cons (pd_var 0) pad_nil)) pd_int)) (pwd_or1 (ptd_cmp (od_ne hr.units) (pd_lc (own := [("_law_sign", 1)]) (js := [1]) rfl sc_l_number.nd (pid_sq (pd_var 0)) (blkOk_by (N := N_l_number) (sc := defScope s_l_number) (by decide +kernel)) (fun _ _ _ _ _ => (pgd_name (i := 1) sc_l_number.nd rfl (Or.inl rfl))) (fun _ _ _ _ _ => (ptsd_one (ptd_cmp od_notin (pd_var 1) pd_str))) (fun _ _ _ _ _ => (pd_var 1)) (by decide)) (pd_lst pad_nil))))) (pssd_one (psd_ret pd_non)) pssd_nil)
    (pssd_one (psd_ret (pd_if (PW.pt (pwd_and (ptd_cmp od_gt (pd_callB cd_len (by rfl) m_len bt_len (pad_cons (pd_var 0) pad_nil)) pd_int) (pwd_and1 (ptd_cmp (od_eq hr.units) (pd_ix (pd_var 0) pd_int) pd_str)))) pd_non (pd_callTy cd_int (by rfl) m_int bt_int (pad_cons (pd_var 0) pad_nil))))))) rd_number
theorem ok_l_wrong (F : Fun K "_law_wrong" "_law_wrong" s_l_wrong f fd) (m_len : mg "len" = none) (m_list : mg "list" = none) (m_max : mg "max" = none) (m_min : mg "min" = none) (m_range : mg "range" = none) (m_set : mg "set" = none) (m_sorted : mg "sorted" = none) : FnOk P w K mg base CX0 1 f fd ["_law_faces_here"] (spD G f_wrong) :=
  fnD F sc_l_wrong (fun _ _ _ h => len1 h) (fun cdv A outer s H E hr =>
    (pssd_cons (psd_if (ptd_cmp od_gt (pd_callB cd_len (by rfl) m_len bt_len (pad_cons (pd_var 0) pad_nil)) pd_int) (pssd_one (psd_ret (pd_tup (pad_cons pd_str (pad_cons pd_int pad_nil))))) pssd_nil)
    (pssd_cons (psd_for (js := [1]) PassesOwn.never rfl (pid_range1 (by rfl) m_range (pad_cons (pd_callB cd_len (by rfl) m_len bt_len (pad_cons (pd_var 0) pad_nil)) pad_nil)) (pgd_name (i := 1) sc_l_wrong.nd rfl (Or.inl rfl))
    (pssd_cons (psd_asg (js := [2, 3, 4]) (pd_ix (pd_var 0) (pd_var 1)) (pgd_tup rfl (pgsd_cons (pgd_name (i := 2) sc_l_wrong.nd rfl (Or.inl rfl)) (pgsd_cons (pgd_name (i := 3) sc_l_wrong.nd rfl (Or.inl rfl)) (pgsd_cons (pgd_name (i := 4) sc_l_wrong.nd rfl (Or.inl rfl)) pgsd_nil)))))
    (pssd_cons (psd_setLc (i := 5) (own := [("_law_sign", 7)]) (js := [7]) rfl sc_l_wrong.nd rfl rfl (sw_true rfl rfl rfl (by decide +kernel)) (pid_sq (pd_var 2)) (blkOk_by (N := N_l_wrong) (sc := defScope s_l_wrong) (by decide +kernel)) (fun _ _ _ _ _ => (pgd_name (i := 7) sc_l_wrong.nd rfl (Or.inl rfl))) (fun _ _ _ _ _ => (ptsd_one (ptd_cmp od_in (pd_var 7) pd_str))) (fun _ _ _ _ _ => (pd_var 7)) (by decide))
    (pssd_cons (psd_set (i := 6) sc_l_wrong.nd rfl (Or.inl rfl) (pd_and (pd_cmp (od_eq hr.units) (pd_callB cd_len (by rfl) m_len bt_len (pad_cons (pd_var 5) pad_nil)) (pd_callB cd_len (by rfl) m_len bt_len (pad_cons (pd_var 2) pad_nil))) (pd_and (pd_chain od_lt od_lt pd_int (pd_callB cd_len (by rfl) m_len bt_len (pad_cons (pd_var 2) pad_nil)) pd_int) (pd_one (pd_cmp od_notin (pd_var 2) (pd_lc (own := [("_law_face", 8)]) (js := [8]) rfl sc_l_wrong.nd (pid_sq (pd_slice (pd_var 0) pod_no (pod_some (pd_var 1)))) (blkOk_by (N := N_l_wrong) (sc := defScope s_l_wrong) (by decide +kernel)) (fun _ _ _ _ _ => (pgd_name (i := 8) sc_l_wrong.nd rfl (Or.inl rfl))) (fun _ _ _ _ _ => ptsd_nil) (fun _ _ _ _ _ => (pd_ix (pd_var 8) pd_int)) (by decide)))))))
    (pssd_cons (psd_set (i := 6) sc_l_wrong.nd rfl (Or.inl rfl) (pd_and (pd_var 6) (pd_and (pd_chain od_le od_le pd_int (pd_var 3) pd_int) (pd_and (pd_cmp od_lt (pd_callB cd_len (by rfl) m_len bt_len (pad_cons (pd_var 4) pad_nil)) pd_int) (pd_one (pd_cmp (od_eq hr.units) (pd_callTy cd_list (by rfl) m_list bt_list (pad_cons (pd_var 4) pad_nil)) (pd_sortsetT rfl (by rfl) m_sorted (by rfl) m_set (pd_var 4))))))))
    (pssd_one (psd_if (PW.pt (pwd_or (ptd_not (pt_of (pd_var 6))) (pwd_or (ptd_cmp od_lt (pd_callB (cd_minT rfl hr.units) (by rfl) m_min bt_min (pad_cons (pd_op od_add (pd_tup (pad_cons pd_int pad_nil)) (pd_var 4)) pad_nil)) pd_int) (pwd_or1 (ptd_cmp od_gt (pd_callB (cd_maxT rfl hr.units) (by rfl) m_max bt_max (pad_cons (pd_op od_add (pd_tup (pad_cons pd_int pad_nil)) (pd_var 4)) pad_nil)) pd_int))))) (pssd_one (psd_ret (pd_tup (pad_cons pd_str (pad_cons (pd_var 1) pad_nil))))) pssd_nil)))))))
    (pssd_one (psd_ret pd_non))))) rd_wrong
theorem ok_l_due (F : Fun K "_law_due" "_law_due" s_l_due f fd) (m_len : mg "len" = none) (m_range : mg "range" = none) (m_tuple : mg "tuple" = none) (C__law_number : Cal P w K mg base CX0 1 "_law_number" ["_law_word"] (spD G f_number)) (C__law_wrong : Cal P w K mg base CX0 1 "_law_wrong" ["_law_faces_here"] (spD G f_wrong)) : FnOk P w K mg base CX0 2 f fd ["_law_text"] (spD G f_due2) :=
  fnD F sc_l_due (fun _ _ _ h => len1 h) (fun cdv A outer s H E hr =>
    (pssd_cons (psd_setO (i := 1) sc_l_due.nd rfl (Or.inl rfl) (pd_lst pad_nil))
    (pssd_cons (psd_set (i := 2) sc_l_due.nd rfl (Or.inl rfl) (pd_if (ptd_cmp (od_ne hr.units) (pd_var 0) pd_str) (pd_split (pd_var 0) pd_str) (pd_lst pad_nil)))
    (pssd_cons (psd_for (js := [3]) PassesOwn.never rfl (pid_range1 (by rfl) m_range (pad_cons (pd_callB cd_len (by rfl) m_len bt_len (pad_cons (pd_var 2) pad_nil)) pad_nil)) (pgd_name (i := 3) sc_l_due.nd rfl (Or.inl rfl))
    (pssd_cons (psd_set (i := 4) sc_l_due.nd rfl (Or.inl rfl) (pd_split (pd_ix (pd_var 2) (pd_var 3)) pd_str))
    (pssd_cons (psd_setLc (i := 5) (own := [("_law_word", 9)]) (js := [9]) rfl sc_l_due.nd rfl rfl (sw_true rfl rfl rfl (by decide +kernel)) (pid_sq (pd_slice (pd_var 4) (pod_some pd_int) pod_no)) (blkOk_by (N := N_l_due) (sc := defScope s_l_due) (by decide +kernel)) (fun _ _ _ _ _ => (pgd_name (i := 9) sc_l_due.nd rfl (Or.inl rfl))) (fun _ _ _ _ _ => ptsd_nil) (fun _ _ _ _ _ => (pd_call C__law_number (hr.mono (by decide)) (pad_cons (pd_var 9) pad_nil))) (by decide))
    (pssd_cons (psd_set (i := 6) sc_l_due.nd rfl (Or.inl rfl) (pd_ix (pd_op od_add (pd_var 4) (pd_lst (pad_cons pd_str pad_nil))) pd_int))
    (pssd_cons (psd_setLc (i := 7) (own := [("_law_sign", 10)]) (js := [10]) rfl sc_l_due.nd rfl rfl (sw_true rfl rfl rfl (by decide +kernel)) (pid_sq (pd_var 6)) (blkOk_by (N := N_l_due) (sc := defScope s_l_due) (by decide +kernel)) (fun _ _ _ _ _ => (pgd_name (i := 10) sc_l_due.nd rfl (Or.inl rfl))) (fun _ _ _ _ _ => (ptsd_one (ptd_cmp od_in (pd_var 10) pd_str))) (fun _ _ _ _ _ => (pd_var 10)) (by decide))
    (pssd_cons (psd_if (PW.pt (pwd_or (ptd_cmp (od_ne hr.units) (pd_ix (pd_var 4) pd_int) pd_str) (pwd_or (ptd_cmp (od_eq hr.units) (pd_var 5) (pd_lst pad_nil)) (pwd_or (ptd_cmp od_in pd_non (pd_var 5)) (pwd_or (ptd_not (ptd_chain od_lt od_lt pd_int (pd_callB cd_len (by rfl) m_len bt_len (pad_cons (pd_var 6) pad_nil)) pd_int)) (pwd_or1 (ptd_cmp (od_ne hr.units) (pd_callB cd_len (by rfl) m_len bt_len (pad_cons (pd_var 7) pad_nil)) (pd_callB cd_len (by rfl) m_len bt_len (pad_cons (pd_var 6) pad_nil))))))))) (pssd_one (psd_ret (pd_tup (pad_cons pd_str (pad_cons (pd_var 3) pad_nil))))) pssd_nil)
    (pssd_one (psd_app (pv 1) (pd_tup (pad_cons (pd_var 6) (pad_cons (pd_ix (pd_var 5) pd_int) (pad_cons (pd_callTy cd_tuple (by rfl) m_tuple bt_tuple (pad_cons (pd_slice (pd_var 5) (pod_some pd_int) pod_no) pad_nil)) pad_nil))))))))))))
    (pssd_cons (psd_set (i := 8) sc_l_due.nd rfl (Or.inl rfl) (pd_call C__law_wrong (hr.mono (by decide)) (pad_cons (pd_var 1) pad_nil)))
    (pssd_one (psd_rel 1 (psd_ret (pd_if (ptd_cmp od_is (pd_var 8) pd_non) (pd_var 1) (pd_op od_add (pd_tup (pad_cons pd_str pad_nil)) (pd_var 8))))))))))) rd_due2
theorem ok_is_name (F : Fun K "is_name" "is_name" s_is_name f fd) {t_LETTERS : Tok} (m_LETTERS : mg "LETTERS" = some (.str ("abcdefghijklmnopqrstuvwxyz" : Str) t_LETTERS)) {t_LONGEST_NAME : Tok} (m_LONGEST_NAME : mg "LONGEST_NAME" = some (.int 8 t_LONGEST_NAME)) (m_len : mg "len" = none) : FnOk P w K mg base CX0 1 f fd ["text"] (spD G f_is_name) :=
  fnD F sc_is_name (fun _ _ _ h => len1 h) (fun cdv A outer s H E hr =>
    (pssd_one (psd_ret (pd_and (pd_chain od_le od_le pd_int (pd_callB cd_len (by rfl) m_len bt_len (pad_cons (pd_var 0) pad_nil)) (pd_gint (by rfl) m_LONGEST_NAME)) (pd_one (pd_cmp (od_eq hr.units) (pd_lc (own := [("sign", 1)]) (js := [1]) rfl sc_is_name.nd (pid_sq (pd_var 0)) (blkOk_by (N := N_is_name) (sc := defScope s_is_name) (by decide +kernel)) (fun _ _ _ _ _ => (pgd_name (i := 1) sc_is_name.nd rfl (Or.inl rfl))) (fun _ _ _ _ _ => (ptsd_one (ptd_cmp od_notin (pd_var 1) (pd_gstr (by rfl) m_LETTERS)))) (fun _ _ _ _ _ => (pd_var 1)) (by decide)) (pd_lst pad_nil))))))) rd_is_name
theorem ok_number_of (F : Fun K "number_of" "number_of" s_number_of f fd) {t_FIGURES : Tok} (m_FIGURES : mg "FIGURES" = some (.str ("0123456789" : Str) t_FIGURES)) (m_int : mg "int" = none) (m_len : mg "len" = none) (XB_BadText : XCls P w K mg base G.xText "BadText" ["self", "row"] (spX1 G.xText "row")) : FnOk P w K mg base (L2.CX P w) 3 f fd ["word", "row"] (spD G f_number_of2) :=
  fnDX F sc_number_of (fun _ _ _ h => len_number_of2 h) (fun cdv A outer s H E hr =>
    (pssd_cons (psd_if (PW.pt (pwd_or (ptd_not (ptd_chain od_le od_le pd_int (pd_callB cd_len (by rfl) m_len bt_len (pad_cons (pd_var 0) pad_nil)) pd_int)) (pwd_or1 (ptd_cmp (od_ne hr.units) (pd_lc (own := [("sign", 2)]) (js := [2]) rfl sc_number_of.nd (pid_sq (pd_var 0)) (blkOk_by (N := N_number_of) (sc := defScope s_number_of) (by decide +kernel)) (fun _ _ _ _ _ => (pgd_name (i := 2) sc_number_of.nd rfl (Or.inl rfl))) (fun _ _ _ _ _ => (ptsd_one (ptd_cmp od_notin (pd_var 2) (pd_gstr (by rfl) m_FIGURES)))) (fun _ _ _ _ _ => (pd_var 2)) (by decide)) (pd_lst pad_nil))))) (pssd_one (psd_raise1 (mk := Exn.text) XB_BadText (hr.mono (by decide)) rfl (takes_of rfl rfl rfl rfl) (pad_cons (pd_var 1) pad_nil) (fun _ _ _ h => ⟨rfl, _, rfl, h⟩))) pssd_nil)
    (pssd_cons (psd_if (PW.pt (pwd_and (ptd_cmp (od_eq hr.units) (pd_ix (pd_var 0) pd_int) pd_str) (pwd_and1 (ptd_cmp (od_ne hr.units) (pd_var 0) pd_str)))) (pssd_one (psd_raise1 (mk := Exn.text) XB_BadText (hr.mono (by decide)) rfl (takes_of rfl rfl rfl rfl) (pad_cons (pd_var 1) pad_nil) (fun _ _ _ h => ⟨rfl, _, rfl, h⟩))) pssd_nil)
    (pssd_one (psd_ret (pd_callTy cd_int (by rfl) m_int bt_int (pad_cons (pd_var 0) pad_nil))))))) rd_number_of2
theorem ok_are_signs (F : Fun K "are_signs" "are_signs" s_are_signs f fd) {t_LIMIT : Tok} (m_LIMIT : mg "LIMIT" = some (.int 1000 t_LIMIT)) {t_MOST_SIGNS : Tok} (m_MOST_SIGNS : mg "MOST_SIGNS" = some (.int 100 t_MOST_SIGNS)) (m_len : mg "len" = none) (m_range : mg "range" = none) : FnOk P w K mg base CX0 1 f fd ["signs"] (spD G f_are_signsG) :=
  fnD F sc_are_signs (fun _ _ _ h => len1 h) (fun cdv A outer s H E hr =>
    (pssd_cons (psd_if (PW.pt (pwd_or (ptd_cmp od_gt (pd_callB cd_len (by rfl) m_len bt_len (pad_cons (pd_var 0) pad_nil)) (pd_gint (by rfl) m_MOST_SIGNS)) (pwd_or1 (ptd_cmp (od_ne hr.units) (pd_lc (own := [("sign", 1)]) (js := [1]) rfl sc_are_signs.nd (pid_sq (pd_var 0)) (blkOk_by (N := N_are_signs) (sc := defScope s_are_signs) (by decide +kernel)) (fun _ _ _ _ _ => (pgd_name (i := 1) sc_are_signs.nd rfl (Or.inl rfl))) (fun _ _ _ _ _ => (ptsd_one (ptd_not (ptd_chain od_le od_lt pd_int (pd_var 1) (pd_gint (by rfl) m_LIMIT))))) (fun _ _ _ _ _ => (pd_var 1)) (by decide)) (pd_lst pad_nil))))) (pssd_one (psd_ret pd_bl)) pssd_nil)
    (pssd_one (psd_ret (pd_cmp (od_eq hr.units) (pd_lc (own := [("k", 2)]) (js := [2]) rfl sc_are_signs.nd (pid_range2 (by rfl) m_range (pad_cons pd_int (pad_cons (pd_callB cd_len (by rfl) m_len bt_len (pad_cons (pd_var 0) pad_nil)) pad_nil))) (blkOk_by (N := N_are_signs) (sc := defScope s_are_signs) (by decide +kernel)) (fun _ _ _ _ _ => (pgd_name (i := 2) sc_are_signs.nd rfl (Or.inl rfl))) (fun _ _ _ _ _ => (ptsd_one (ptd_cmp od_ge (pd_ix (pd_var 0) (pd_op od_sub (pd_var 2) pd_int)) (pd_ix (pd_var 0) (pd_var 2))))) (fun _ _ _ _ _ => (pd_var 2)) (by decide)) (pd_lst pad_nil)))))) rd_are_signsG
theorem ok_c___init (F : Fun K "__init__" "Case.__init__" s_c___init f fd) {t_MOST_FACES : Tok} (m_MOST_FACES : mg "MOST_FACES" = some (.int 8 t_MOST_FACES)) {t_MOST_RANK : Tok} (m_MOST_RANK : mg "MOST_RANK" = some (.int 9 t_MOST_RANK)) (m_len : mg "len" = none) (m_list : mg "list" = none) (m_range : mg "range" = none) (cl_ : Cls K G.cC) (nk_ : NoAttr K G.cC "kept_faces") (XB_BadCase : XCls P w K mg base G.xCase "BadCase" ["self", "word", "number"] (spX2 G.xCase "word" "number")) (C_is_name : Cal P w K mg base CX0 1 "is_name" ["text"] (spD G f_is_name)) (C_are_signs : Cal P w K mg base CX0 1 "are_signs" ["signs"] (spD G f_are_signsG)) : FnOk P w K mg base (L2.CX P w) 3 f fd ["self", "faces"] (spI G f_Case2) :=
  fnIX F sc_c___init cl_ nk_ (fun cdv A outer s H E hr =>
    (pss_cons (psd_if (ptd_cmp od_gt (pd_callB cd_len (by rfl) m_len bt_len (pad_cons (pd_var 1) pad_nil)) (pd_gint (by rfl) m_MOST_FACES)) (pssd_one (psd_raise2 XB_BadCase (hr.mono (by decide)) rfl (takes_of rfl rfl rfl rfl) (pad_cons pd_str (pad_cons pd_int pad_nil)) rfl)) pssd_nil)
    (pss_cons (psd_for (js := [2]) (passes_of rfl) rfl (pid_range1 (by rfl) m_range (pad_cons (pd_callB cd_len (by rfl) m_len bt_len (pad_cons (pd_var 1) pad_nil)) pad_nil)) (pgd_name (i := 2) sc_c___init.nd rfl (Or.inl rfl))
    (pssd_cons (psd_asg (js := [3, 4, 5]) (pd_ix (pd_var 1) (pd_var 2)) (pgd_tup rfl (pgsd_cons (pgd_name (i := 3) sc_c___init.nd rfl (Or.inl rfl)) (pgsd_cons (pgd_name (i := 4) sc_c___init.nd rfl (Or.inl rfl)) (pgsd_cons (pgd_name (i := 5) sc_c___init.nd rfl (Or.inl rfl)) pgsd_nil)))))
    (pssd_cons (psd_set (i := 6) sc_c___init.nd rfl (Or.inl rfl) (pd_and (pd_call C_is_name (hr.mono (by decide)) (pad_cons (pd_var 3) pad_nil)) (pd_one (pd_cmp od_notin (pd_var 3) (pd_lc (own := [("face", 7)]) (js := [7]) rfl sc_c___init.nd (pid_sq (pd_slice (pd_var 1) pod_no (pod_some (pd_var 2)))) (blkOk_by (N := N_c___init) (sc := defScope s_c___init) (by decide +kernel)) (fun _ _ _ _ _ => (pgd_name (i := 7) sc_c___init.nd rfl (Or.inl rfl))) (fun _ _ _ _ _ => ptsd_nil) (fun _ _ _ _ _ => (pd_ix (pd_var 7) pd_int)) (by decide))))))
    (pssd_one (psd_if (PW.pt (pwd_or (ptd_not (pt_of (pd_var 6))) (pwd_or (ptd_not (ptd_chain od_le od_le pd_int (pd_var 4) (pd_gint (by rfl) m_MOST_RANK))) (pwd_or1 (ptd_not (pt_of (pd_call C_are_signs (hr.mono (by decide)) (pad_cons (pd_var 5) pad_nil)))))))) (pssd_one (psd_raise2 XB_BadCase (hr.mono (by decide)) rfl (takes_of rfl rfl rfl rfl) (pad_cons pd_str (pad_cons (pd_var 2) pad_nil)) rfl)) pssd_nil)))))
    (pss_one (ps_fld (pv 0) (pd_callTy cd_list (by rfl) m_list bt_list (pad_cons (pd_var 1) pad_nil)) rfl))))) rd_Case2
theorem ok_read (F : Fun K "read" "read" s_read f fd) (m_len : mg "len" = none) (m_range : mg "range" = none) (m_tuple : mg "tuple" = none) (XB_BadText : XCls P w K mg base G.xText "BadText" ["self", "row"] (spX1 G.xText "row")) (C_is_name : Cal P w K mg base CX0 1 "is_name" ["text"] (spD G f_is_name)) (C_number_of : Cal P w K mg base (L2.CX P w) 3 "number_of" ["word", "row"] (spD G f_number_of2)) (mk_Case : MkC P w K mg base (L2.CX P w) 3 G.cC "Case" (spI G f_Case2)) : FnOk P w K mg base (L2.CX P w) 5 f fd ["text"] (spD G f_read2) :=
  fnDX F sc_read (fun _ _ _ h => len_read2 h) (fun cdv A outer s H E hr =>
    (pssd_cons (psd_setO (i := 1) sc_read.nd rfl (Or.inl rfl) (pd_lst pad_nil))
    (pssd_cons (psd_set (i := 2) sc_read.nd rfl (Or.inl rfl) (pd_if (ptd_cmp (od_ne hr.units) (pd_var 0) pd_str) (pd_split (pd_var 0) pd_str) (pd_lst pad_nil)))
    (pssd_cons (psd_for (js := [3]) (passes_of rfl) rfl (pid_range1 (by rfl) m_range (pad_cons (pd_callB cd_len (by rfl) m_len bt_len (pad_cons (pd_var 2) pad_nil)) pad_nil)) (pgd_name (i := 3) sc_read.nd rfl (Or.inr rfl))
    (pssd_cons (psd_set (i := 4) sc_read.nd rfl (Or.inl rfl) (pd_split (pd_ix (pd_var 2) (pd_var 3)) pd_str))
    (pssd_cons (psd_if (PW.pt (pwd_or (ptd_cmp od_lt (pd_callB cd_len (by rfl) m_len bt_len (pad_cons (pd_var 4) pad_nil)) pd_int) (pwd_or (ptd_cmp (od_ne hr.units) (pd_ix (pd_var 4) pd_int) pd_str) (pwd_or1 (ptd_not (pt_of (pd_call C_is_name (hr.mono (by decide)) (pad_cons (pd_ix (pd_var 4) pd_int) pad_nil)))))))) (pssd_one (psd_raise1 (mk := Exn.text) XB_BadText (hr.mono (by decide)) rfl (takes_of rfl rfl rfl rfl) (pad_cons (pd_var 3) pad_nil) (fun _ _ _ h => ⟨rfl, _, rfl, h⟩))) pssd_nil)
    (pssd_cons (psd_setLcX (i := 5) (own := [("word", 6)]) (js := [6]) rfl sc_read.nd rfl rfl (takes_of rfl rfl rfl rfl) rfl rfl (sw_true rfl rfl rfl (by decide +kernel)) (pid_sq (pd_slice (pd_var 4) (pod_some pd_int) pod_no)) (blkOk_by (N := N_read) (sc := defScope s_read) (by decide +kernel)) (fun _ _ _ _ _ => (pgd_name (i := 6) sc_read.nd rfl (Or.inl rfl))) (fun _ _ _ _ _ => ptsd_nil) (fun _ _ _ _ _ => (pd_callXb C_number_of (hr.mono (by decide)) passXI (pad_cons (pd_var 6) (pad_cons (pd_var 3) pad_nil)))) (by decide))
    (pssd_one (psd_app (pv 1) (pd_tup (pad_cons (pd_ix (pd_var 4) pd_int) (pad_cons (pd_ix (pd_var 5) pd_int) (pad_cons (pd_callTy cd_tuple (by rfl) m_tuple bt_tuple (pad_cons (pd_slice (pd_var 5) (pod_some pd_int) pod_no) pad_nil)) pad_nil))))))))))
    (pssd_one (psd_ret (pd_makeX mk_Case f_Case2_len (hr.mono (by decide)) (takes_of rfl rfl rfl rfl) (pad_cons (pd_var 1) pad_nil)))))))) rd_read2
theorem ok_c_faces (F : Fun K "faces" "Case.faces" s_c_faces f fd) (m_list : mg "list" = none) (cl_ : Cls K G.cC) (nk_ : NoAttr K G.cC "kept_faces") : FnOk P w K mg base CX0 1 f fd ["self"] (spD G f_faces) :=
  fnD F sc_c_faces (fun _ _ _ h => len1 h) (fun cdv A outer s H E hr =>
    (pssd_one (psd_ret (pd_callTy cd_list (by rfl) m_list bt_list (pad_cons (pd_fld cl_ nk_ (pd_var 0)) pad_nil))))) rd_faces
theorem ok_l_told (F : Fun K "_law_told" "_law_told" s_l_told f fd) (m_ValueError : mg "ValueError" = none) (m_isinstance : mg "isinstance" = none) (cl_ : Cls K G.cC) (nk_ : NoAttr K G.cC "kept_faces") {FX_ : Addr} (XA_ : XAll K G FX_) (mx_FaceError : mg "FaceError" = some (.ref FX_)) (kit_value : ∀ x, PySem.W.kitOne K (.ref (clsOf G x)) (.type "ValueError") = some (isEx .value x)) (mx_BadCase : mg "BadCase" = some (.ref G.xCase)) (kit_BadCase : ∀ x, PySem.W.kitOne K (.ref (clsOf G x)) (.ref G.xCase) = some (isEx .case x)) (mx_BadSign : mg "BadSign" = some (.ref G.xSign)) (kit_BadSign : ∀ x, PySem.W.kitOne K (.ref (clsOf G x)) (.ref G.xSign) = some (isEx .sign x)) (mx_BadRow : mg "BadRow" = some (.ref G.xRow)) (kit_BadRow : ∀ x, PySem.W.kitOne K (.ref (clsOf G x)) (.ref G.xRow) = some (isEx .row x)) (mx_BadChange : mg "BadChange" = some (.ref G.xChange)) (kit_BadChange : ∀ x, PySem.W.kitOne K (.ref (clsOf G x)) (.ref G.xChange) = some (isEx .change x)) (mx_BadText : mg "BadText" = some (.ref G.xText)) (kit_BadText : ∀ x, PySem.W.kitOne K (.ref (clsOf G x)) (.ref G.xText) = some (isEx .text x)) (mC_ : mg "Case" = some (.ref G.cC)) (isC_ : IsC K G.cC) (C_read : Cal P w K mg base (L2.CX P w) 5 "read" ["text"] (spD G f_read2)) (M_faces : CalM P w K mg base CX0 1 G.cC "faces" ["self"] (spD G f_faces)) : FnOk P w K mg base CX0 6 f fd ["_law_text"] (spD G f_told) :=
  fnD F sc_l_told (fun _ _ _ h => len1 h) (fun cdv A outer s H E hr =>
    (pssd_one (psd_try (i := 2) rfl rfl sc_l_told.nd rfl rfl ⟨by rfl, by decide, .inl mx_FaceError⟩ XA_ (fun E' pn xe tk po => (pssd_cons (psd_set (i := 1) sc_l_told.nd rfl (Or.inl rfl) (pd_callX C_read (hr.mono (by decide)) tk (pad_cons (pd_var 0) pad_nil)))
    (pssd_one (psd_ret (pd_if (pt_of (pd_isiC (by rfl) m_isinstance (pd_var 1) (by rfl) mC_ cl_ isC_)) (pd_meth0 cl_ M_faces (hr.mono (by decide)) (pd_var 1)) pd_non)))))
    (fun a oe cls dd pn hz hf => (pssd_cons (psd_set (i := 3) sc_l_told.nd rfl (Or.inl rfl) (pd_or (pd_isX (cv := .ref G.xChange) XA_ hz hf kit_BadChange (fun _ h => h) (by rfl) m_isinstance (pv 2) (pe_glob (v := .ref G.xChange) (by rfl) mx_BadChange rfl (by decide))) (pd_or (pd_isX (cv := .ref G.xRow) XA_ hz hf kit_BadRow (fun _ h => h) (by rfl) m_isinstance (pv 2) (pe_glob (v := .ref G.xRow) (by rfl) mx_BadRow rfl (by decide))) (pd_one (pd_isX (cv := .ref G.xSign) XA_ hz hf kit_BadSign (fun _ h => h) (by rfl) m_isinstance (pv 2) (pe_glob (v := .ref G.xSign) (by rfl) mx_BadSign rfl (by decide)))))))
    (pssd_cons (psd_set (i := 4) sc_l_told.nd rfl (Or.inl rfl) (pd_lst (pad_cons (pd_isX (cv := .ref G.xText) XA_ hz hf kit_BadText (fun _ h => h) (by rfl) m_isinstance (pv 2) (pe_glob (v := .ref G.xText) (by rfl) mx_BadText rfl (by decide))) (pad_cons (pd_isX (cv := .ref G.xCase) XA_ hz hf kit_BadCase (fun _ h => h) (by rfl) m_isinstance (pv 2) (pe_glob (v := .ref G.xCase) (by rfl) mx_BadCase rfl (by decide))) (pad_cons (pd_var 3) (pad_cons (pd_not (pd_isX (cv := .ty "ValueError") XA_ hz hf kit_value (fun _ h => h) (by rfl) m_isinstance (pv 2) (pe_ty (by rfl) m_ValueError bt_ValueError))) pad_nil))))))
    (pssd_cons (psd_if (ptd_cmp (od_eq hr.units) (pd_var 4) (pd_lst (pad_cons pd_bl (pad_cons pd_bl (pad_cons pd_bl (pad_cons pd_bl pad_nil)))))) (pssd_one (psd_ret (pd_tup (pad_cons pd_str (pad_cons (pd_xf XA_ hz hf (pv 2)) pad_nil))))) pssd_nil)
    (pssd_one (psd_ret (pd_if (ptd_cmp (od_eq hr.units) (pd_var 4) (pd_lst (pad_cons pd_bl (pad_cons pd_bl (pad_cons pd_bl (pad_cons pd_bl pad_nil)))))) (pd_tup (pad_cons pd_str (pad_cons (pd_xf XA_ hz hf (pv 2)) (pad_cons (pd_xf XA_ hz hf (pv 2)) pad_nil)))) pd_non)))))))))) rd_told
theorem ok_l_spoilt (F : Fun K "_law_spoilt" "_law_spoilt" s_l_spoilt f fd) (m_int : mg "int" = none) (m_len : mg "len" = none) (C__law_taken : Cal P w K mg base CX0 1 "_law_taken" ["_law_row", "_law_many"] (spD G f_taken)) : FnOk P w K mg base CX0 2 f fd ["_law_row", "_law_text"] (spD G f_spoilt) :=
  fnD F sc_l_spoilt (fun _ _ _ h => len_spoilt h) (fun cdv A outer s H E hr =>
    (pssd_cons (psd_set (i := 2) sc_l_spoilt.nd rfl (Or.inl rfl) (pd_call C__law_taken (hr.mono (by decide)) (pad_cons (pd_var 0) (pad_cons pd_int pad_nil))))
    (pssd_cons (psd_set (i := 3) sc_l_spoilt.nd rfl (Or.inl rfl) (pd_call C__law_taken (hr.mono (by decide)) (pad_cons (pd_var 0) (pad_cons (pd_op od_add (pd_callB cd_len (by rfl) m_len bt_len (pad_cons (pd_var 1) pad_nil)) pd_int) pad_nil))))
    (pssd_cons (psd_set (i := 4) sc_l_spoilt.nd rfl (Or.inl rfl) pd_str)
    (pssd_cons (psd_set (i := 5) sc_l_spoilt.nd rfl (Or.inl rfl) (pd_ix (pd_lst (pad_cons pd_str (pad_cons (pd_var 4) pad_nil))) (pd_op od_div (pd_call C__law_taken (hr.mono (by decide)) (pad_cons (pd_var 0) (pad_cons pd_int pad_nil))) pd_int)))
    (pssd_cons (psd_set (i := 6) sc_l_spoilt.nd rfl (Or.inl rfl) (pd_ix (pd_var 5) (pd_call C__law_taken (hr.mono (by decide)) (pad_cons (pd_var 0) (pad_cons (pd_callB cd_len (by rfl) m_len bt_len (pad_cons (pd_var 5) pad_nil)) pad_nil)))))
    (pssd_cons (psd_if (ptd_cmp od_lt (pd_var 2) pd_int) (pssd_one (psd_ret (pd_op od_add (pd_op od_add (pd_slice (pd_var 1) pod_no (pod_some (pd_var 3))) (pd_ix (pd_lst (pad_cons (pd_var 6) (pad_cons pd_str (pad_cons (pd_var 6) pad_nil)))) (pd_var 2))) (pd_slice (pd_var 1) (pod_some (pd_op od_add (pd_var 3) (pd_callTy cd_int (by rfl) m_int bt_int (pad_cons (pd_cmp od_gt (pd_var 2) pd_int) pad_nil)))) pod_no)))) pssd_nil)
    (pssd_cons (psd_set (i := 7) sc_l_spoilt.nd rfl (Or.inl rfl) (pd_split (pd_var 1) pd_str))
    (pssd_cons (psd_set (i := 8) sc_l_spoilt.nd rfl (Or.inl rfl) (pd_call C__law_taken (hr.mono (by decide)) (pad_cons (pd_var 0) (pad_cons (pd_callB cd_len (by rfl) m_len bt_len (pad_cons (pd_var 7) pad_nil)) pad_nil))))
    (pssd_cons (psd_if (ptd_cmp (od_eq hr.units) (pd_var 2) pd_int) (pssd_one (psd_ret (pd_join pd_str (pd_op od_add (pd_slice (pd_var 7) pod_no (pod_some (pd_var 8))) (pd_slice (pd_var 7) (pod_some (pd_op od_add (pd_var 8) pd_int)) pod_no))))) pssd_nil)
    (pssd_cons (psd_if (ptd_cmp (od_eq hr.units) (pd_var 2) pd_int) (pssd_one (psd_ret (pd_join pd_str (pd_op od_add (pd_slice (pd_var 7) pod_no (pod_some (pd_op od_add (pd_var 8) pd_int))) (pd_slice (pd_var 7) (pod_some (pd_var 8)) pod_no))))) pssd_nil)
    (pssd_cons (psd_if (ptd_cmp (od_eq hr.units) (pd_var 2) pd_int) (pssd_cons (psd_set (i := 9) sc_l_spoilt.nd rfl (Or.inl rfl) (pd_call C__law_taken (hr.mono (by decide)) (pad_cons (pd_var 0) (pad_cons (pd_callB cd_len (by rfl) m_len bt_len (pad_cons (pd_var 7) pad_nil)) pad_nil))))
    (pssd_cons (psd_set (i := 10) sc_l_spoilt.nd rfl (Or.inl rfl) (pd_op od_add (pd_slice (pd_var 7) pod_no (pod_some (pd_var 8))) (pd_slice (pd_var 7) (pod_some (pd_op od_add (pd_var 8) pd_int)) pod_no)))
    (pssd_one (psd_ret (pd_join pd_str (pd_op od_add (pd_op od_add (pd_slice (pd_var 10) pod_no (pod_some (pd_var 9))) (pd_lst (pad_cons (pd_ix (pd_var 7) (pd_var 8)) pad_nil))) (pd_slice (pd_var 10) (pod_some (pd_var 9)) pod_no))))))) pssd_nil)
    (pssd_cons (psd_set (i := 11) sc_l_spoilt.nd rfl (Or.inl rfl) (pd_split (pd_ix (pd_var 7) (pd_var 8)) pd_str))
    (pssd_cons (psd_set (i := 12) sc_l_spoilt.nd rfl (Or.inl rfl) (pd_call C__law_taken (hr.mono (by decide)) (pad_cons (pd_var 0) (pad_cons (pd_callB cd_len (by rfl) m_len bt_len (pad_cons (pd_var 11) pad_nil)) pad_nil))))
    (pssd_cons (psd_set (i := 13) sc_l_spoilt.nd rfl (Or.inl rfl) (pd_ix (pd_lst (pad_cons pd_str (pad_cons pd_str (pad_cons pd_str (pad_cons pd_str (pad_cons pd_str (pad_cons pd_str (pad_cons pd_str (pad_cons pd_str (pad_cons pd_str (pad_cons pd_str (pad_cons pd_str (pad_cons pd_str pad_nil))))))))))))) (pd_call C__law_taken (hr.mono (by decide)) (pad_cons (pd_var 0) (pad_cons pd_int pad_nil)))))
    (pssd_cons (psd_set (i := 11) sc_l_spoilt.nd rfl (Or.inl rfl) (pd_op od_add (pd_op od_add (pd_slice (pd_var 11) pod_no (pod_some (pd_var 12))) (pd_ix (pd_lst (pad_cons (pd_lst pad_nil) (pad_cons (pd_lst (pad_cons (pd_ix (pd_var 11) (pd_var 12)) (pad_cons (pd_ix (pd_var 11) (pd_var 12)) pad_nil))) (pad_cons (pd_lst (pad_cons (pd_var 13) pad_nil)) pad_nil)))) (pd_op od_sub (pd_var 2) pd_int))) (pd_slice (pd_var 11) (pod_some (pd_op od_add (pd_var 12) pd_int)) pod_no)))
    (pssd_one (psd_ret (pd_join pd_str (pd_op od_add (pd_op od_add (pd_slice (pd_var 7) pod_no (pod_some (pd_var 8))) (pd_lst (pad_cons (pd_join pd_str (pd_var 11)) pad_nil))) (pd_slice (pd_var 7) (pod_some (pd_op od_add (pd_var 8) pd_int)) pod_no))))))))))))))))))))) rd_spoilt
theorem ok_l_odd_text (F : Fun K "_law_odd_text" "_law_odd_text" s_l_odd_text f fd) (m_range : mg "range" = none) (C__law_taken : Cal P w K mg base CX0 1 "_law_taken" ["_law_row", "_law_many"] (spD G f_taken)) : FnOk P w K mg base CX0 2 f fd ["_law_row"] (spD G f_odd_text) :=
  fnD F sc_l_odd_text (fun _ _ _ h => len1 h) (fun cdv A outer s H E hr =>
    (pssd_cons (psd_set (i := 1) sc_l_odd_text.nd rfl (Or.inl rfl) (pd_lst (pad_cons pd_str (pad_cons pd_str (pad_cons pd_str (pad_cons pd_str (pad_cons pd_str (pad_cons pd_str (pad_cons pd_str (pad_cons pd_str (pad_cons pd_str (pad_cons pd_str pad_nil))))))))))))
    (pssd_cons (psd_set (i := 1) sc_l_odd_text.nd rfl (Or.inl rfl) (pd_op od_add (pd_var 1) (pd_lst (pad_cons pd_str (pad_cons pd_str (pad_cons pd_str (pad_cons pd_str (pad_cons pd_str pad_nil))))))))
    (pssd_cons (psd_setLc (i := 2) (own := [("_law_k", 3)]) (js := [3]) rfl sc_l_odd_text.nd rfl rfl (sw_true rfl rfl rfl (by decide +kernel)) (pid_range1 (by rfl) m_range (pad_cons pd_int pad_nil)) (blkOk_by (N := N_l_odd_text) (sc := defScope s_l_odd_text) (by decide +kernel)) (fun _ _ _ _ _ => (pgd_name (i := 3) sc_l_odd_text.nd rfl (Or.inl rfl))) (fun _ _ _ _ _ => ptsd_nil) (fun _ _ _ _ _ => (pd_op od_add (pd_op od_add pd_str (pd_ix pd_str (pd_var 3))) pd_str)) (by decide))
    (pssd_one (psd_ret (pd_ix (pd_op od_add (pd_var 1) (pd_lst (pad_cons (pd_join pd_str (pd_var 2)) pad_nil))) (pd_call C__law_taken (hr.mono (by decide)) (pad_cons (pd_var 0) (pad_cons pd_int pad_nil)))))))))) rd_odd_text
theorem ok_law (hK : G.K = K) (F : Fun K "law" "law" s_law f fd) (m_range : mg "range" = none) (C__law_text_of : Cal P w K mg base CX0 1 "_law_text_of" ["_law_faces_here"] (spD G f_text_of)) (C__law_faces : Cal P w K mg base CX0 3 "_law_faces" ["_law_row", "_law_pool_here", "_law_most"] (spD G f_faces2)) (C__law_pool : Cal P w K mg base CX0 2 "_law_pool" ["_law_row"] (spD G f_pool)) (C__law_alike : Cal P w K mg base CX0 7 "_law_alike" ["_law_found", "_law_due_here"] (spD G (f_alk 6))) (C__law_due : Cal P w K mg base CX0 2 "_law_due" ["_law_text"] (spD G f_due2)) (C__law_told : Cal P w K mg base CX0 6 "_law_told" ["_law_text"] (spD G f_told)) (C__law_taken : Cal P w K mg base CX0 1 "_law_taken" ["_law_row", "_law_many"] (spD G f_taken)) (C__law_spoilt : Cal P w K mg base CX0 2 "_law_spoilt" ["_law_row", "_law_text"] (spD G f_spoilt)) (C__law_odd_text : Cal P w K mg base CX0 2 "_law_odd_text" ["_law_row"] (spD G f_odd_text)) : FnOk P w K mg base CX0 8 f fd ["_law_script"] (spLaw K) :=
  fnLaw F sc_law (by decide) hK (fun cdv A outer s H E hr =>
    (pss_cons (ps_set (i := 1) sc_law.nd rfl (Or.inl rfl) (pe_lst (pa_cons (pv 0) (pa_cons pe_int (pa_cons pe_int (pa_cons pe_int pa_nil))))))
    (pssd_cons (psd_for (js := [2]) PassesOwn.never rfl (pid_range1 (by rfl) m_range (pad_cons pd_int pad_nil)) (pgd_name (i := 2) sc_law.nd rfl (Or.inl rfl))
    (pssd_cons (psd_set (i := 3) sc_law.nd rfl (Or.inl rfl) (pd_call C__law_text_of (hr.mono (by decide)) (pad_cons (pd_call C__law_faces (hr.mono (by decide)) (pad_cons (pd_var 1) (pad_cons (pd_call C__law_pool (hr.mono (by decide)) (pad_cons (pd_var 1) pad_nil)) (pad_cons pd_int pad_nil)))) pad_nil)))
    (pssd_cons (psd_if (ptd_not (pt_of (pd_call C__law_alike (hr.mono (by decide)) (pad_cons (pd_call C__law_told (hr.mono (by decide)) (pad_cons (pd_var 3) pad_nil)) (pad_cons (pd_call C__law_due (hr.mono (by decide)) (pad_cons (pd_var 3) pad_nil)) pad_nil))))) (pssd_one (psd_ret pd_bl)) pssd_nil)
    (pssd_cons (psd_for (js := [4]) PassesOwn.never rfl (pid_range1 (by rfl) m_range (pad_cons (pd_op od_add pd_int (pd_call C__law_taken (hr.mono (by decide)) (pad_cons (pd_var 1) (pad_cons pd_int pad_nil)))) pad_nil)) (pgd_name (i := 4) sc_law.nd rfl (Or.inl rfl))
    (pssd_one (psd_set (i := 3) sc_law.nd rfl (Or.inl rfl) (pd_call C__law_spoilt (hr.mono (by decide)) (pad_cons (pd_var 1) (pad_cons (pd_var 3) pad_nil))))))
    (pssd_one (psd_for (js := [5]) PassesOwn.never rfl (pid_sq (pd_lst (pad_cons (pd_var 3) (pad_cons (pd_call C__law_odd_text (hr.mono (by decide)) (pad_cons (pd_var 1) pad_nil)) pad_nil)))) (pgd_name (i := 5) sc_law.nd rfl (Or.inl rfl))
    (pssd_one (psd_if (ptd_not (pt_of (pd_call C__law_alike (hr.mono (by decide)) (pad_cons (pd_call C__law_told (hr.mono (by decide)) (pad_cons (pd_var 5) pad_nil)) (pad_cons (pd_call C__law_due (hr.mono (by decide)) (pad_cons (pd_var 5) pad_nil)) pad_nil))))) (pssd_one (psd_ret pd_bl)) pssd_nil))))))))
    (pssd_one (psd_ret pd_bl))))) rd_law14
end
theorem all_mk {P : Program} {w : World} {K : PySem.W.Frag} {h : Heap} {mg : Str → Option Value} {fa : Addr} (X : K.In h) (GG : h.Ns mainGlobals mg) (hfa : mg "law" = some (.ref fa))
    {t_FIGURES : Tok}
    {t_LETTERS : Tok}
    {t_LIMIT : Tok}
    {t_LONGEST_NAME : Tok}
    {t_MOST_FACES : Tok}
    {t_MOST_RANK : Tok}
    {t_MOST_SIGNS : Tok}
    {C : Addr}
    {CF CCase CSign CRow CChange CText : Addr}
    {nm_Case q_Case : Str} {N_Case : Addr} {bs_Case sub_Case : List Value} {sn_Case : List Str} {ab_Case : Bool} {col_Case : Option Bool} {dd_Case : Option Addr} {k0_Case k1_Case k2_Case k3_Case k5_Case : Option Value}
    {ad_BadCase_init : Addr} {od_BadCase_init an_BadCase_init : Option Addr} {sl_BadCase_init : Array (Option Value)} {oc_BadCase_init kV_BadCase_init dc_BadCase_init pm_BadCase_init cd_BadCase_init ct_BadCase_init : Value}
    {nm_Sign q_Sign : Str} {N_Sign : Addr} {bs_Sign sub_Sign : List Value} {sn_Sign : List Str} {ab_Sign : Bool} {col_Sign : Option Bool} {dd_Sign : Option Addr} {k0_Sign k1_Sign k2_Sign k3_Sign k5_Sign : Option Value}
    {ad_BadSign_init : Addr} {od_BadSign_init an_BadSign_init : Option Addr} {sl_BadSign_init : Array (Option Value)} {oc_BadSign_init kV_BadSign_init dc_BadSign_init pm_BadSign_init cd_BadSign_init ct_BadSign_init : Value}
    {nm_Row q_Row : Str} {N_Row : Addr} {bs_Row sub_Row : List Value} {sn_Row : List Str} {ab_Row : Bool} {col_Row : Option Bool} {dd_Row : Option Addr} {k0_Row k1_Row k2_Row k3_Row k5_Row : Option Value}
    {ad_BadRow_init : Addr} {od_BadRow_init an_BadRow_init : Option Addr} {sl_BadRow_init : Array (Option Value)} {oc_BadRow_init kV_BadRow_init dc_BadRow_init pm_BadRow_init cd_BadRow_init ct_BadRow_init : Value}
    {nm_Text q_Text : Str} {N_Text : Addr} {bs_Text sub_Text : List Value} {sn_Text : List Str} {ab_Text : Bool} {col_Text : Option Bool} {dd_Text : Option Addr} {k0_Text k1_Text k2_Text k3_Text k5_Text : Option Value}
    {ad_BadText_init : Addr} {od_BadText_init an_BadText_init : Option Addr} {sl_BadText_init : Array (Option Value)} {oc_BadText_init kV_BadText_init dc_BadText_init pm_BadText_init cd_BadText_init ct_BadText_init : Value}
    {ad_l_text_of : Addr} {od_l_text_of an_l_text_of : Option Addr} {sl_l_text_of : Array (Option Value)} {oc_l_text_of kV_l_text_of dc_l_text_of pm_l_text_of cd_l_text_of ct_l_text_of : Value}
    {ad_l_taken : Addr} {od_l_taken an_l_taken : Option Addr} {sl_l_taken : Array (Option Value)} {oc_l_taken kV_l_taken dc_l_taken pm_l_taken cd_l_taken ct_l_taken : Value}
    {ad_l_names : Addr} {od_l_names an_l_names : Option Addr} {sl_l_names : Array (Option Value)} {oc_l_names kV_l_names dc_l_names pm_l_names cd_l_names ct_l_names : Value}
    {ad_l_faces : Addr} {od_l_faces an_l_faces : Option Addr} {sl_l_faces : Array (Option Value)} {oc_l_faces kV_l_faces dc_l_faces pm_l_faces cd_l_faces ct_l_faces : Value}
    {ad_l_pool : Addr} {od_l_pool an_l_pool : Option Addr} {sl_l_pool : Array (Option Value)} {oc_l_pool kV_l_pool dc_l_pool pm_l_pool cd_l_pool ct_l_pool : Value}
    {ad_l_alike : Addr} {od_l_alike an_l_alike : Option Addr} {sl_l_alike : Array (Option Value)} {oc_l_alike kV_l_alike dc_l_alike pm_l_alike cd_l_alike ct_l_alike : Value}
    {ad_l_number : Addr} {od_l_number an_l_number : Option Addr} {sl_l_number : Array (Option Value)} {oc_l_number kV_l_number dc_l_number pm_l_number cd_l_number ct_l_number : Value}
    {ad_l_wrong : Addr} {od_l_wrong an_l_wrong : Option Addr} {sl_l_wrong : Array (Option Value)} {oc_l_wrong kV_l_wrong dc_l_wrong pm_l_wrong cd_l_wrong ct_l_wrong : Value}
    {ad_l_due : Addr} {od_l_due an_l_due : Option Addr} {sl_l_due : Array (Option Value)} {oc_l_due kV_l_due dc_l_due pm_l_due cd_l_due ct_l_due : Value}
    {ad_is_name : Addr} {od_is_name an_is_name : Option Addr} {sl_is_name : Array (Option Value)} {oc_is_name kV_is_name dc_is_name pm_is_name cd_is_name ct_is_name : Value}
    {ad_number_of : Addr} {od_number_of an_number_of : Option Addr} {sl_number_of : Array (Option Value)} {oc_number_of kV_number_of dc_number_of pm_number_of cd_number_of ct_number_of : Value}
    {ad_are_signs : Addr} {od_are_signs an_are_signs : Option Addr} {sl_are_signs : Array (Option Value)} {oc_are_signs kV_are_signs dc_are_signs pm_are_signs cd_are_signs ct_are_signs : Value}
    {ad_c___init : Addr} {od_c___init an_c___init : Option Addr} {sl_c___init : Array (Option Value)} {oc_c___init kV_c___init dc_c___init pm_c___init cd_c___init ct_c___init : Value}
    {ad_read : Addr} {od_read an_read : Option Addr} {sl_read : Array (Option Value)} {oc_read kV_read dc_read pm_read cd_read ct_read : Value}
    {ad_c_faces : Addr} {od_c_faces an_c_faces : Option Addr} {sl_c_faces : Array (Option Value)} {oc_c_faces kV_c_faces dc_c_faces pm_c_faces cd_c_faces ct_c_faces : Value}
    {ad_l_told : Addr} {od_l_told an_l_told : Option Addr} {sl_l_told : Array (Option Value)} {oc_l_told kV_l_told dc_l_told pm_l_told cd_l_told ct_l_told : Value}
    {ad_l_spoilt : Addr} {od_l_spoilt an_l_spoilt : Option Addr} {sl_l_spoilt : Array (Option Value)} {oc_l_spoilt kV_l_spoilt dc_l_spoilt pm_l_spoilt cd_l_spoilt ct_l_spoilt : Value}
    {ad_l_odd_text : Addr} {od_l_odd_text an_l_odd_text : Option Addr} {sl_l_odd_text : Array (Option Value)} {oc_l_odd_text kV_l_odd_text dc_l_odd_text pm_l_odd_text cd_l_odd_text ct_l_odd_text : Value}
    {ad_law : Addr} {od_law an_law : Option Addr} {sl_law : Array (Option Value)} {oc_law kV_law dc_law pm_law cd_law ct_law : Value}
    (v_FIGURES : PySem.W.nsIn K mainGlobals "FIGURES" = some (some (.str ("0123456789" : Str) t_FIGURES)))
    (v_LETTERS : PySem.W.nsIn K mainGlobals "LETTERS" = some (some (.str ("abcdefghijklmnopqrstuvwxyz" : Str) t_LETTERS)))
    (v_LIMIT : PySem.W.nsIn K mainGlobals "LIMIT" = some (some (.int 1000 t_LIMIT)))
    (v_LONGEST_NAME : PySem.W.nsIn K mainGlobals "LONGEST_NAME" = some (some (.int 8 t_LONGEST_NAME)))
    (v_MOST_FACES : PySem.W.nsIn K mainGlobals "MOST_FACES" = some (some (.int 8 t_MOST_FACES)))
    (v_MOST_RANK : PySem.W.nsIn K mainGlobals "MOST_RANK" = some (some (.int 9 t_MOST_RANK)))
    (v_MOST_SIGNS : PySem.W.nsIn K mainGlobals "MOST_SIGNS" = some (some (.int 100 t_MOST_SIGNS)))
    (z_ValueError : PySem.W.nsIn K mainGlobals "ValueError" = some none)
    (z_bool : PySem.W.nsIn K mainGlobals "bool" = some none)
    (z_int : PySem.W.nsIn K mainGlobals "int" = some none)
    (z_isinstance : PySem.W.nsIn K mainGlobals "isinstance" = some none)
    (z_len : PySem.W.nsIn K mainGlobals "len" = some none)
    (z_list : PySem.W.nsIn K mainGlobals "list" = some none)
    (z_max : PySem.W.nsIn K mainGlobals "max" = some none)
    (z_min : PySem.W.nsIn K mainGlobals "min" = some none)
    (z_range : PySem.W.nsIn K mainGlobals "range" = some none)
    (z_set : PySem.W.nsIn K mainGlobals "set" = some none)
    (z_sorted : PySem.W.nsIn K mainGlobals "sorted" = some none)
    (z_str : PySem.W.nsIn K mainGlobals "str" = some none)
    (z_tuple : PySem.W.nsIn K mainGlobals "tuple" = some none)
    (aC : PySem.W.nsIn K mainGlobals "Case" = some (some (.ref C)))
    (pg : PySem.W.plainGet K C Str.empty = true)
    (hd : PySem.W.hasDictIn K C = true)
    (po : PySem.W.plainOver K C = true)
    (sa : PySem.W.findIn K (.ref C) "__setattr__" = some (some (.builtin "object.__setattr__")))
    (mk : PySem.W.makesIn K C = true)
    (kc : PySem.W.keepIn K (.ref C) = true)
    (nK : PySem.W.findIn K (.ref C) "kept_faces" = some none)
    (aF : PySem.W.nsIn K mainGlobals "FaceError" = some (some (.ref CF)))
    (a_BadCase : PySem.W.nsIn K mainGlobals "BadCase" = some (some (.ref CCase)))
    (a_BadSign : PySem.W.nsIn K mainGlobals "BadSign" = some (some (.ref CSign)))
    (a_BadRow : PySem.W.nsIn K mainGlobals "BadRow" = some (some (.ref CRow)))
    (a_BadChange : PySem.W.nsIn K mainGlobals "BadChange" = some (some (.ref CChange)))
    (a_BadText : PySem.W.nsIn K mainGlobals "BadText" = some (some (.ref CText)))
    (rdF : PySem.W.readsIn K CF (.type "type") = true)
    (gaF : PySem.W.specialIn K (.ref CF) "__getattribute__" = some (some (.builtin "type.__getattribute__")))
    (atF : PySem.W.findCls K (.ref CF) (.type "type") "__init__" = some (.val (.builtin "ValueError.__init__")))
    (sbF : PySem.W.subIn K (.ref CF) (.type "BaseException") = some true)
    (icF : PySem.W.isClsIn K CF = true)
    (tyF : PySem.W.typeIn K (.ref CF) = some (.type "type"))
    (xgn : PySem.W.specialIn K (.builtin "object.__class__") "__get__" = some (some (.builtin "getset_descriptor.__get__")))
    (xtk : PySem.W.takesIn K (.builtin "object.__class__") = some true)
    (icCase : PySem.W.isClsIn K CCase = true)
    (tyCase : PySem.W.typeIn K (.ref CCase) = some (.type "type"))
    (kpCase : PySem.W.keepIn K (.ref CCase) = true)
    (sbCase : PySem.W.subIn K (.ref CCase) (.type "BaseException") = some true)
    (hdCase : PySem.W.hasDictIn K CCase = true)
    (saCase : PySem.W.findIn K (.ref CCase) "__setattr__" = some (some (.builtin "object.__setattr__")))
    (gaCase : PySem.W.findIn K (.ref CCase) "__getattribute__" = some (some (.builtin "BaseException.__getattribute__")))
    (gtCase : PySem.W.findIn K (.ref CCase) "__getattr__" = some none)
    (ccCase : PySem.W.findIn K (.ref CCase) "__class__" = some (some (.builtin "object.__class__")))
    (moCase : PySem.W.mroIn K CCase (.type "object") = some true)
    (svCase : PySem.W.subIn K (.ref CCase) (.type "ValueError") = some true)
    (sfCase : PySem.W.subIn K (.ref CCase) (.ref CF) = some true)
    (ssCaseCase : PySem.W.subIn K (.ref CCase) (.ref CCase) = some true)
    (ssCaseSign : PySem.W.subIn K (.ref CCase) (.ref CSign) = some false)
    (ssCaseRow : PySem.W.subIn K (.ref CCase) (.ref CRow) = some false)
    (ssCaseChange : PySem.W.subIn K (.ref CCase) (.ref CChange) = some false)
    (ssCaseText : PySem.W.subIn K (.ref CCase) (.ref CText) = some false)
    (nfCaseword : PySem.W.findIn K (.ref CCase) "word" = some none)
    (nfCasenumber : PySem.W.findIn K (.ref CCase) "number" = some none)
    (xlCase : K.lookup CCase = some (excClassObj nm_Case q_Case CCase N_Case bs_Case [.ref CF, .type "ValueError", .type "Exception", .type "BaseException", .type "object"] true sn_Case sub_Case ab_Case col_Case dd_Case k0_Case k1_Case k2_Case k3_Case k5_Case "ValueError.__new__"))
    (a_BadCase_init : PySem.W.findIn K (.ref CCase) "__init__" = some (some (.ref ad_BadCase_init)))
    (tiCase : PySem.W.typeIn K (.ref ad_BadCase_init) = some (.type "function"))
    (l_BadCase_init : K.lookup ad_BadCase_init = some ⟨oc_BadCase_init, od_BadCase_init, .func (PySem.W.fnOf "__init__" "BadCase.__init__" (defArgs s_BadCase_init) (defBody s_BadCase_init) (defScope s_BadCase_init) .none kV_BadCase_init dc_BadCase_init pm_BadCase_init an_BadCase_init cd_BadCase_init ct_BadCase_init), sl_BadCase_init⟩)
    (c_BadCase_init : PySem.W.codeIn K cd_BadCase_init "BadCase.__init__" = true)
    (k_BadCase_init : PySem.W.keepIn K (.ref ad_BadCase_init) = true)
    (icSign : PySem.W.isClsIn K CSign = true)
    (tySign : PySem.W.typeIn K (.ref CSign) = some (.type "type"))
    (kpSign : PySem.W.keepIn K (.ref CSign) = true)
    (sbSign : PySem.W.subIn K (.ref CSign) (.type "BaseException") = some true)
    (hdSign : PySem.W.hasDictIn K CSign = true)
    (saSign : PySem.W.findIn K (.ref CSign) "__setattr__" = some (some (.builtin "object.__setattr__")))
    (gaSign : PySem.W.findIn K (.ref CSign) "__getattribute__" = some (some (.builtin "BaseException.__getattribute__")))
    (gtSign : PySem.W.findIn K (.ref CSign) "__getattr__" = some none)
    (ccSign : PySem.W.findIn K (.ref CSign) "__class__" = some (some (.builtin "object.__class__")))
    (moSign : PySem.W.mroIn K CSign (.type "object") = some true)
    (svSign : PySem.W.subIn K (.ref CSign) (.type "ValueError") = some true)
    (sfSign : PySem.W.subIn K (.ref CSign) (.ref CF) = some true)
    (ssSignCase : PySem.W.subIn K (.ref CSign) (.ref CCase) = some false)
    (ssSignSign : PySem.W.subIn K (.ref CSign) (.ref CSign) = some true)
    (ssSignRow : PySem.W.subIn K (.ref CSign) (.ref CRow) = some false)
    (ssSignChange : PySem.W.subIn K (.ref CSign) (.ref CChange) = some false)
    (ssSignText : PySem.W.subIn K (.ref CSign) (.ref CText) = some false)
    (nfSignplace : PySem.W.findIn K (.ref CSign) "place" = some none)
    (xlSign : K.lookup CSign = some (excClassObj nm_Sign q_Sign CSign N_Sign bs_Sign [.ref CF, .type "ValueError", .type "Exception", .type "BaseException", .type "object"] true sn_Sign sub_Sign ab_Sign col_Sign dd_Sign k0_Sign k1_Sign k2_Sign k3_Sign k5_Sign "ValueError.__new__"))
    (a_BadSign_init : PySem.W.findIn K (.ref CSign) "__init__" = some (some (.ref ad_BadSign_init)))
    (tiSign : PySem.W.typeIn K (.ref ad_BadSign_init) = some (.type "function"))
    (l_BadSign_init : K.lookup ad_BadSign_init = some ⟨oc_BadSign_init, od_BadSign_init, .func (PySem.W.fnOf "__init__" "BadSign.__init__" (defArgs s_BadSign_init) (defBody s_BadSign_init) (defScope s_BadSign_init) .none kV_BadSign_init dc_BadSign_init pm_BadSign_init an_BadSign_init cd_BadSign_init ct_BadSign_init), sl_BadSign_init⟩)
    (c_BadSign_init : PySem.W.codeIn K cd_BadSign_init "BadSign.__init__" = true)
    (k_BadSign_init : PySem.W.keepIn K (.ref ad_BadSign_init) = true)
    (icRow : PySem.W.isClsIn K CRow = true)
    (tyRow : PySem.W.typeIn K (.ref CRow) = some (.type "type"))
    (kpRow : PySem.W.keepIn K (.ref CRow) = true)
    (sbRow : PySem.W.subIn K (.ref CRow) (.type "BaseException") = some true)
    (hdRow : PySem.W.hasDictIn K CRow = true)
    (saRow : PySem.W.findIn K (.ref CRow) "__setattr__" = some (some (.builtin "object.__setattr__")))
    (gaRow : PySem.W.findIn K (.ref CRow) "__getattribute__" = some (some (.builtin "BaseException.__getattribute__")))
    (gtRow : PySem.W.findIn K (.ref CRow) "__getattr__" = some none)
    (ccRow : PySem.W.findIn K (.ref CRow) "__class__" = some (some (.builtin "object.__class__")))
    (moRow : PySem.W.mroIn K CRow (.type "object") = some true)
    (svRow : PySem.W.subIn K (.ref CRow) (.type "ValueError") = some true)
    (sfRow : PySem.W.subIn K (.ref CRow) (.ref CF) = some true)
    (ssRowCase : PySem.W.subIn K (.ref CRow) (.ref CCase) = some false)
    (ssRowSign : PySem.W.subIn K (.ref CRow) (.ref CSign) = some false)
    (ssRowRow : PySem.W.subIn K (.ref CRow) (.ref CRow) = some true)
    (ssRowChange : PySem.W.subIn K (.ref CRow) (.ref CChange) = some false)
    (ssRowText : PySem.W.subIn K (.ref CRow) (.ref CText) = some false)
    (nfRowplace : PySem.W.findIn K (.ref CRow) "place" = some none)
    (xlRow : K.lookup CRow = some (excClassObj nm_Row q_Row CRow N_Row bs_Row [.ref CF, .type "ValueError", .type "Exception", .type "BaseException", .type "object"] true sn_Row sub_Row ab_Row col_Row dd_Row k0_Row k1_Row k2_Row k3_Row k5_Row "ValueError.__new__"))
    (a_BadRow_init : PySem.W.findIn K (.ref CRow) "__init__" = some (some (.ref ad_BadRow_init)))
    (tiRow : PySem.W.typeIn K (.ref ad_BadRow_init) = some (.type "function"))
    (l_BadRow_init : K.lookup ad_BadRow_init = some ⟨oc_BadRow_init, od_BadRow_init, .func (PySem.W.fnOf "__init__" "BadRow.__init__" (defArgs s_BadRow_init) (defBody s_BadRow_init) (defScope s_BadRow_init) .none kV_BadRow_init dc_BadRow_init pm_BadRow_init an_BadRow_init cd_BadRow_init ct_BadRow_init), sl_BadRow_init⟩)
    (c_BadRow_init : PySem.W.codeIn K cd_BadRow_init "BadRow.__init__" = true)
    (k_BadRow_init : PySem.W.keepIn K (.ref ad_BadRow_init) = true)
    (icChange : PySem.W.isClsIn K CChange = true)
    (tyChange : PySem.W.typeIn K (.ref CChange) = some (.type "type"))
    (kpChange : PySem.W.keepIn K (.ref CChange) = true)
    (sbChange : PySem.W.subIn K (.ref CChange) (.type "BaseException") = some true)
    (hdChange : PySem.W.hasDictIn K CChange = true)
    (saChange : PySem.W.findIn K (.ref CChange) "__setattr__" = some (some (.builtin "object.__setattr__")))
    (gaChange : PySem.W.findIn K (.ref CChange) "__getattribute__" = some (some (.builtin "BaseException.__getattribute__")))
    (gtChange : PySem.W.findIn K (.ref CChange) "__getattr__" = some none)
    (ccChange : PySem.W.findIn K (.ref CChange) "__class__" = some (some (.builtin "object.__class__")))
    (moChange : PySem.W.mroIn K CChange (.type "object") = some true)
    (svChange : PySem.W.subIn K (.ref CChange) (.type "ValueError") = some true)
    (sfChange : PySem.W.subIn K (.ref CChange) (.ref CF) = some true)
    (ssChangeCase : PySem.W.subIn K (.ref CChange) (.ref CCase) = some false)
    (ssChangeSign : PySem.W.subIn K (.ref CChange) (.ref CSign) = some false)
    (ssChangeRow : PySem.W.subIn K (.ref CChange) (.ref CRow) = some false)
    (ssChangeChange : PySem.W.subIn K (.ref CChange) (.ref CChange) = some true)
    (ssChangeText : PySem.W.subIn K (.ref CChange) (.ref CText) = some false)
    (exChange : PySem.W.excIn K CChange PySem.HandSPX.veTail "ValueError.__new__" = true)
    (icText : PySem.W.isClsIn K CText = true)
    (tyText : PySem.W.typeIn K (.ref CText) = some (.type "type"))
    (kpText : PySem.W.keepIn K (.ref CText) = true)
    (sbText : PySem.W.subIn K (.ref CText) (.type "BaseException") = some true)
    (hdText : PySem.W.hasDictIn K CText = true)
    (saText : PySem.W.findIn K (.ref CText) "__setattr__" = some (some (.builtin "object.__setattr__")))
    (gaText : PySem.W.findIn K (.ref CText) "__getattribute__" = some (some (.builtin "BaseException.__getattribute__")))
    (gtText : PySem.W.findIn K (.ref CText) "__getattr__" = some none)
    (ccText : PySem.W.findIn K (.ref CText) "__class__" = some (some (.builtin "object.__class__")))
    (moText : PySem.W.mroIn K CText (.type "object") = some true)
    (svText : PySem.W.subIn K (.ref CText) (.type "ValueError") = some true)
    (sfText : PySem.W.subIn K (.ref CText) (.ref CF) = some true)
    (ssTextCase : PySem.W.subIn K (.ref CText) (.ref CCase) = some false)
    (ssTextSign : PySem.W.subIn K (.ref CText) (.ref CSign) = some false)
    (ssTextRow : PySem.W.subIn K (.ref CText) (.ref CRow) = some false)
    (ssTextChange : PySem.W.subIn K (.ref CText) (.ref CChange) = some false)
    (ssTextText : PySem.W.subIn K (.ref CText) (.ref CText) = some true)
    (nfTextrow : PySem.W.findIn K (.ref CText) "row" = some none)
    (xlText : K.lookup CText = some (excClassObj nm_Text q_Text CText N_Text bs_Text [.ref CF, .type "ValueError", .type "Exception", .type "BaseException", .type "object"] true sn_Text sub_Text ab_Text col_Text dd_Text k0_Text k1_Text k2_Text k3_Text k5_Text "ValueError.__new__"))
    (a_BadText_init : PySem.W.findIn K (.ref CText) "__init__" = some (some (.ref ad_BadText_init)))
    (tiText : PySem.W.typeIn K (.ref ad_BadText_init) = some (.type "function"))
    (l_BadText_init : K.lookup ad_BadText_init = some ⟨oc_BadText_init, od_BadText_init, .func (PySem.W.fnOf "__init__" "BadText.__init__" (defArgs s_BadText_init) (defBody s_BadText_init) (defScope s_BadText_init) .none kV_BadText_init dc_BadText_init pm_BadText_init an_BadText_init cd_BadText_init ct_BadText_init), sl_BadText_init⟩)
    (c_BadText_init : PySem.W.codeIn K cd_BadText_init "BadText.__init__" = true)
    (k_BadText_init : PySem.W.keepIn K (.ref ad_BadText_init) = true)
    (iA : PySem.W.findIn K (.ref C) "__class__" = some (some (.builtin "object.__class__")))
    (iN : PySem.W.specialIn K (.builtin "object.__class__") "__get__" = some (some (.builtin "getset_descriptor.__get__")))
    (iT : PySem.W.takesIn K (.builtin "object.__class__") = some true)
    (iM : PySem.W.mroIn K C (.type "object") = some true)
    (a_l_text_of : PySem.W.nsIn K mainGlobals "_law_text_of" = some (some (.ref ad_l_text_of)))
    (l_l_text_of : K.lookup ad_l_text_of = some ⟨oc_l_text_of, od_l_text_of, .func (PySem.W.fnOf "_law_text_of" "_law_text_of" (defArgs s_l_text_of) (defBody s_l_text_of) (defScope s_l_text_of) .none kV_l_text_of dc_l_text_of pm_l_text_of an_l_text_of cd_l_text_of ct_l_text_of), sl_l_text_of⟩)
    (c_l_text_of : PySem.W.codeIn K cd_l_text_of "_law_text_of" = true)
    (k_l_text_of : PySem.W.keepIn K (.ref ad_l_text_of) = true)
    (a_l_taken : PySem.W.nsIn K mainGlobals "_law_taken" = some (some (.ref ad_l_taken)))
    (l_l_taken : K.lookup ad_l_taken = some ⟨oc_l_taken, od_l_taken, .func (PySem.W.fnOf "_law_taken" "_law_taken" (defArgs s_l_taken) (defBody s_l_taken) (defScope s_l_taken) .none kV_l_taken dc_l_taken pm_l_taken an_l_taken cd_l_taken ct_l_taken), sl_l_taken⟩)
    (c_l_taken : PySem.W.codeIn K cd_l_taken "_law_taken" = true)
    (k_l_taken : PySem.W.keepIn K (.ref ad_l_taken) = true)
    (a_l_names : PySem.W.nsIn K mainGlobals "_law_names" = some (some (.ref ad_l_names)))
    (l_l_names : K.lookup ad_l_names = some ⟨oc_l_names, od_l_names, .func (PySem.W.fnOf "_law_names" "_law_names" (defArgs s_l_names) (defBody s_l_names) (defScope s_l_names) .none kV_l_names dc_l_names pm_l_names an_l_names cd_l_names ct_l_names), sl_l_names⟩)
    (c_l_names : PySem.W.codeIn K cd_l_names "_law_names" = true)
    (k_l_names : PySem.W.keepIn K (.ref ad_l_names) = true)
    (a_l_faces : PySem.W.nsIn K mainGlobals "_law_faces" = some (some (.ref ad_l_faces)))
    (l_l_faces : K.lookup ad_l_faces = some ⟨oc_l_faces, od_l_faces, .func (PySem.W.fnOf "_law_faces" "_law_faces" (defArgs s_l_faces) (defBody s_l_faces) (defScope s_l_faces) .none kV_l_faces dc_l_faces pm_l_faces an_l_faces cd_l_faces ct_l_faces), sl_l_faces⟩)
    (c_l_faces : PySem.W.codeIn K cd_l_faces "_law_faces" = true)
    (k_l_faces : PySem.W.keepIn K (.ref ad_l_faces) = true)
    (a_l_pool : PySem.W.nsIn K mainGlobals "_law_pool" = some (some (.ref ad_l_pool)))
    (l_l_pool : K.lookup ad_l_pool = some ⟨oc_l_pool, od_l_pool, .func (PySem.W.fnOf "_law_pool" "_law_pool" (defArgs s_l_pool) (defBody s_l_pool) (defScope s_l_pool) .none kV_l_pool dc_l_pool pm_l_pool an_l_pool cd_l_pool ct_l_pool), sl_l_pool⟩)
    (c_l_pool : PySem.W.codeIn K cd_l_pool "_law_pool" = true)
    (k_l_pool : PySem.W.keepIn K (.ref ad_l_pool) = true)
    (a_l_alike : PySem.W.nsIn K mainGlobals "_law_alike" = some (some (.ref ad_l_alike)))
    (l_l_alike : K.lookup ad_l_alike = some ⟨oc_l_alike, od_l_alike, .func (PySem.W.fnOf "_law_alike" "_law_alike" (defArgs s_l_alike) (defBody s_l_alike) (defScope s_l_alike) .none kV_l_alike dc_l_alike pm_l_alike an_l_alike cd_l_alike ct_l_alike), sl_l_alike⟩)
    (c_l_alike : PySem.W.codeIn K cd_l_alike "_law_alike" = true)
    (k_l_alike : PySem.W.keepIn K (.ref ad_l_alike) = true)
    (a_l_number : PySem.W.nsIn K mainGlobals "_law_number" = some (some (.ref ad_l_number)))
    (l_l_number : K.lookup ad_l_number = some ⟨oc_l_number, od_l_number, .func (PySem.W.fnOf "_law_number" "_law_number" (defArgs s_l_number) (defBody s_l_number) (defScope s_l_number) .none kV_l_number dc_l_number pm_l_number an_l_number cd_l_number ct_l_number), sl_l_number⟩)
    (c_l_number : PySem.W.codeIn K cd_l_number "_law_number" = true)
    (k_l_number : PySem.W.keepIn K (.ref ad_l_number) = true)
    (a_l_wrong : PySem.W.nsIn K mainGlobals "_law_wrong" = some (some (.ref ad_l_wrong)))
    (l_l_wrong : K.lookup ad_l_wrong = some ⟨oc_l_wrong, od_l_wrong, .func (PySem.W.fnOf "_law_wrong" "_law_wrong" (defArgs s_l_wrong) (defBody s_l_wrong) (defScope s_l_wrong) .none kV_l_wrong dc_l_wrong pm_l_wrong an_l_wrong cd_l_wrong ct_l_wrong), sl_l_wrong⟩)
    (c_l_wrong : PySem.W.codeIn K cd_l_wrong "_law_wrong" = true)
    (k_l_wrong : PySem.W.keepIn K (.ref ad_l_wrong) = true)
    (a_l_due : PySem.W.nsIn K mainGlobals "_law_due" = some (some (.ref ad_l_due)))
    (l_l_due : K.lookup ad_l_due = some ⟨oc_l_due, od_l_due, .func (PySem.W.fnOf "_law_due" "_law_due" (defArgs s_l_due) (defBody s_l_due) (defScope s_l_due) .none kV_l_due dc_l_due pm_l_due an_l_due cd_l_due ct_l_due), sl_l_due⟩)
    (c_l_due : PySem.W.codeIn K cd_l_due "_law_due" = true)
    (k_l_due : PySem.W.keepIn K (.ref ad_l_due) = true)
    (a_is_name : PySem.W.nsIn K mainGlobals "is_name" = some (some (.ref ad_is_name)))
    (l_is_name : K.lookup ad_is_name = some ⟨oc_is_name, od_is_name, .func (PySem.W.fnOf "is_name" "is_name" (defArgs s_is_name) (defBody s_is_name) (defScope s_is_name) .none kV_is_name dc_is_name pm_is_name an_is_name cd_is_name ct_is_name), sl_is_name⟩)
    (c_is_name : PySem.W.codeIn K cd_is_name "is_name" = true)
    (k_is_name : PySem.W.keepIn K (.ref ad_is_name) = true)
    (a_number_of : PySem.W.nsIn K mainGlobals "number_of" = some (some (.ref ad_number_of)))
    (l_number_of : K.lookup ad_number_of = some ⟨oc_number_of, od_number_of, .func (PySem.W.fnOf "number_of" "number_of" (defArgs s_number_of) (defBody s_number_of) (defScope s_number_of) .none kV_number_of dc_number_of pm_number_of an_number_of cd_number_of ct_number_of), sl_number_of⟩)
    (c_number_of : PySem.W.codeIn K cd_number_of "number_of" = true)
    (k_number_of : PySem.W.keepIn K (.ref ad_number_of) = true)
    (a_are_signs : PySem.W.nsIn K mainGlobals "are_signs" = some (some (.ref ad_are_signs)))
    (l_are_signs : K.lookup ad_are_signs = some ⟨oc_are_signs, od_are_signs, .func (PySem.W.fnOf "are_signs" "are_signs" (defArgs s_are_signs) (defBody s_are_signs) (defScope s_are_signs) .none kV_are_signs dc_are_signs pm_are_signs an_are_signs cd_are_signs ct_are_signs), sl_are_signs⟩)
    (c_are_signs : PySem.W.codeIn K cd_are_signs "are_signs" = true)
    (k_are_signs : PySem.W.keepIn K (.ref ad_are_signs) = true)
    (a_c___init : PySem.W.findIn K (.ref C) "__init__" = some (some (.ref ad_c___init)))
    (i_c___init : PySem.W.isFn K (.ref ad_c___init) = true)
    (l_c___init : K.lookup ad_c___init = some ⟨oc_c___init, od_c___init, .func (PySem.W.fnOf "__init__" "Case.__init__" (defArgs s_c___init) (defBody s_c___init) (defScope s_c___init) .none kV_c___init dc_c___init pm_c___init an_c___init cd_c___init ct_c___init), sl_c___init⟩)
    (c_c___init : PySem.W.codeIn K cd_c___init "Case.__init__" = true)
    (k_c___init : PySem.W.keepIn K (.ref ad_c___init) = true)
    (a_read : PySem.W.nsIn K mainGlobals "read" = some (some (.ref ad_read)))
    (l_read : K.lookup ad_read = some ⟨oc_read, od_read, .func (PySem.W.fnOf "read" "read" (defArgs s_read) (defBody s_read) (defScope s_read) .none kV_read dc_read pm_read an_read cd_read ct_read), sl_read⟩)
    (c_read : PySem.W.codeIn K cd_read "read" = true)
    (k_read : PySem.W.keepIn K (.ref ad_read) = true)
    (a_c_faces : PySem.W.findIn K (.ref C) "faces" = some (some (.ref ad_c_faces)))
    (i_c_faces : PySem.W.isFn K (.ref ad_c_faces) = true)
    (l_c_faces : K.lookup ad_c_faces = some ⟨oc_c_faces, od_c_faces, .func (PySem.W.fnOf "faces" "Case.faces" (defArgs s_c_faces) (defBody s_c_faces) (defScope s_c_faces) .none kV_c_faces dc_c_faces pm_c_faces an_c_faces cd_c_faces ct_c_faces), sl_c_faces⟩)
    (c_c_faces : PySem.W.codeIn K cd_c_faces "Case.faces" = true)
    (k_c_faces : PySem.W.keepIn K (.ref ad_c_faces) = true)
    (a_l_told : PySem.W.nsIn K mainGlobals "_law_told" = some (some (.ref ad_l_told)))
    (l_l_told : K.lookup ad_l_told = some ⟨oc_l_told, od_l_told, .func (PySem.W.fnOf "_law_told" "_law_told" (defArgs s_l_told) (defBody s_l_told) (defScope s_l_told) .none kV_l_told dc_l_told pm_l_told an_l_told cd_l_told ct_l_told), sl_l_told⟩)
    (c_l_told : PySem.W.codeIn K cd_l_told "_law_told" = true)
    (k_l_told : PySem.W.keepIn K (.ref ad_l_told) = true)
    (a_l_spoilt : PySem.W.nsIn K mainGlobals "_law_spoilt" = some (some (.ref ad_l_spoilt)))
    (l_l_spoilt : K.lookup ad_l_spoilt = some ⟨oc_l_spoilt, od_l_spoilt, .func (PySem.W.fnOf "_law_spoilt" "_law_spoilt" (defArgs s_l_spoilt) (defBody s_l_spoilt) (defScope s_l_spoilt) .none kV_l_spoilt dc_l_spoilt pm_l_spoilt an_l_spoilt cd_l_spoilt ct_l_spoilt), sl_l_spoilt⟩)
    (c_l_spoilt : PySem.W.codeIn K cd_l_spoilt "_law_spoilt" = true)
    (k_l_spoilt : PySem.W.keepIn K (.ref ad_l_spoilt) = true)
    (a_l_odd_text : PySem.W.nsIn K mainGlobals "_law_odd_text" = some (some (.ref ad_l_odd_text)))
    (l_l_odd_text : K.lookup ad_l_odd_text = some ⟨oc_l_odd_text, od_l_odd_text, .func (PySem.W.fnOf "_law_odd_text" "_law_odd_text" (defArgs s_l_odd_text) (defBody s_l_odd_text) (defScope s_l_odd_text) .none kV_l_odd_text dc_l_odd_text pm_l_odd_text an_l_odd_text cd_l_odd_text ct_l_odd_text), sl_l_odd_text⟩)
    (c_l_odd_text : PySem.W.codeIn K cd_l_odd_text "_law_odd_text" = true)
    (k_l_odd_text : PySem.W.keepIn K (.ref ad_l_odd_text) = true)
    (a_law : PySem.W.nsIn K mainGlobals "law" = some (some (.ref ad_law)))
    (l_law : K.lookup ad_law = some ⟨oc_law, od_law, .func (PySem.W.fnOf "law" "law" (defArgs s_law) (defBody s_law) (defScope s_law) .none kV_law dc_law pm_law an_law cd_law ct_law), sl_law⟩)
    (c_law : PySem.W.codeIn K cd_law "law" = true)
    (k_law : PySem.W.keepIn K (.ref ad_law) = true) :
    ∃ fd : FuncData, (∀ (s : Shared) (v : Value), BindsTo s fd ⟨[v], []⟩ [("_law_script", v)]) ∧ ∀ base : Heap, K.In base → base.Ns mainGlobals mg → FnOk P w K mg base CX0 8 fa fd ["_law_script"] (spLaw K) := by
  have e := hfa.symm.trans (PySem.W.mg_of X GG a_law)
  cases e
  have m_FIGURES := PySem.W.mg_of X GG v_FIGURES
  have m_LETTERS := PySem.W.mg_of X GG v_LETTERS
  have m_LIMIT := PySem.W.mg_of X GG v_LIMIT
  have m_LONGEST_NAME := PySem.W.mg_of X GG v_LONGEST_NAME
  have m_MOST_FACES := PySem.W.mg_of X GG v_MOST_FACES
  have m_MOST_RANK := PySem.W.mg_of X GG v_MOST_RANK
  have m_MOST_SIGNS := PySem.W.mg_of X GG v_MOST_SIGNS
  have m_ValueError := PySem.W.mg_none_of X GG z_ValueError
  have m_bool := PySem.W.mg_none_of X GG z_bool
  have m_int := PySem.W.mg_none_of X GG z_int
  have m_isinstance := PySem.W.mg_none_of X GG z_isinstance
  have m_len := PySem.W.mg_none_of X GG z_len
  have m_list := PySem.W.mg_none_of X GG z_list
  have m_max := PySem.W.mg_none_of X GG z_max
  have m_min := PySem.W.mg_none_of X GG z_min
  have m_range := PySem.W.mg_none_of X GG z_range
  have m_set := PySem.W.mg_none_of X GG z_set
  have m_sorted := PySem.W.mg_none_of X GG z_sorted
  have m_str := PySem.W.mg_none_of X GG z_str
  have m_tuple := PySem.W.mg_none_of X GG z_tuple
  obtain ⟨G, hK, hC, hx1, hx2, hx3, hx4, hx5⟩ : ∃ G : Gp, G.K = K ∧ G.cC = C ∧ G.xCase = CCase ∧ G.xSign = CSign ∧ G.xRow = CRow ∧ G.xChange = CChange ∧ G.xText = CText := ⟨⟨K, C, CCase, CSign, CRow, CChange, CText⟩, rfl, rfl, rfl, rfl, rfl, rfl, rfl⟩
  subst hx1 hx2 hx3 hx4 hx5
  have mx_FaceError := PySem.W.mg_of X GG aF
  have FE_ : FeC K CF := ⟨rdF, gaF, atF⟩
  have mx_BadCase := PySem.W.mg_of X GG a_BadCase
  have xk_Case : XK1 K G.xCase CF := ⟨icCase, tyCase, kpCase, sbCase, hdCase, saCase, gaCase, gtCase, ccCase, moCase, svCase, sfCase⟩
  have mx_BadSign := PySem.W.mg_of X GG a_BadSign
  have xk_Sign : XK1 K G.xSign CF := ⟨icSign, tySign, kpSign, sbSign, hdSign, saSign, gaSign, gtSign, ccSign, moSign, svSign, sfSign⟩
  have mx_BadRow := PySem.W.mg_of X GG a_BadRow
  have xk_Row : XK1 K G.xRow CF := ⟨icRow, tyRow, kpRow, sbRow, hdRow, saRow, gaRow, gtRow, ccRow, moRow, svRow, sfRow⟩
  have mx_BadChange := PySem.W.mg_of X GG a_BadChange
  have xk_Change : XK1 K G.xChange CF := ⟨icChange, tyChange, kpChange, sbChange, hdChange, saChange, gaChange, gtChange, ccChange, moChange, svChange, sfChange⟩
  have mx_BadText := PySem.W.mg_of X GG a_BadText
  have xk_Text : XK1 K G.xText CF := ⟨icText, tyText, kpText, sbText, hdText, saText, gaText, gtText, ccText, moText, svText, sfText⟩
  have xk : ∀ x, XK1 K (clsOf G x) CF := fun x => by cases x <;> assumption
  have XA_ : XAll K G CF := xall_mk xk sbF icF tyF xgn xtk nfCaseword nfCasenumber nfSignplace nfRowplace nfTextrow
  have kit_value := kitV_mk xk
  have kit_BadCase : ∀ x, PySem.W.kitOne K (.ref (clsOf G x)) (.ref G.xCase) = some (isEx .case x) := kit_mk xk_Case ssCaseCase ssCaseCase ssSignCase ssRowCase ssChangeCase ssTextCase
  have kit_BadSign : ∀ x, PySem.W.kitOne K (.ref (clsOf G x)) (.ref G.xSign) = some (isEx .sign x) := kit_mk xk_Sign ssSignSign ssCaseSign ssSignSign ssRowSign ssChangeSign ssTextSign
  have kit_BadRow : ∀ x, PySem.W.kitOne K (.ref (clsOf G x)) (.ref G.xRow) = some (isEx .row x) := kit_mk xk_Row ssRowRow ssCaseRow ssSignRow ssRowRow ssChangeRow ssTextRow
  have kit_BadChange : ∀ x, PySem.W.kitOne K (.ref (clsOf G x)) (.ref G.xChange) = some (isEx .change x) := kit_mk xk_Change ssChangeChange ssCaseChange ssSignChange ssRowChange ssChangeChange ssTextChange
  have kit_BadText : ∀ x, PySem.W.kitOne K (.ref (clsOf G x)) (.ref G.xText) = some (isEx .text x) := kit_mk xk_Text ssTextText ssCaseText ssSignText ssRowText ssChangeText ssTextText
  have F_BadCase_init := fun_mk (st := s_BadCase_init) l_BadCase_init c_BadCase_init k_BadCase_init
  have b_BadCase_init := F_BadCase_init.binds (ps := ["self", "word", "number"]) fun _ _ _ _ _ _ us hl => match us, hl with | [_, _, _], _ => rfl
  have T_Case : OexC K G.xCase := oexc_mk xk_Case ⟨_, _, _, _, _, _, _, _, _, _, _, _, _, _, _, xlCase, by rfl⟩
  have F_BadSign_init := fun_mk (st := s_BadSign_init) l_BadSign_init c_BadSign_init k_BadSign_init
  have b_BadSign_init := F_BadSign_init.binds (ps := ["self", "place"]) fun _ _ _ _ _ _ us hl => match us, hl with | [_, _], _ => rfl
  have T_Sign : OexC K G.xSign := oexc_mk xk_Sign ⟨_, _, _, _, _, _, _, _, _, _, _, _, _, _, _, xlSign, by rfl⟩
  have F_BadRow_init := fun_mk (st := s_BadRow_init) l_BadRow_init c_BadRow_init k_BadRow_init
  have b_BadRow_init := F_BadRow_init.binds (ps := ["self", "place"]) fun _ _ _ _ _ _ us hl => match us, hl with | [_, _], _ => rfl
  have T_Row : OexC K G.xRow := oexc_mk xk_Row ⟨_, _, _, _, _, _, _, _, _, _, _, _, _, _, _, xlRow, by rfl⟩
  have F_BadText_init := fun_mk (st := s_BadText_init) l_BadText_init c_BadText_init k_BadText_init
  have b_BadText_init := F_BadText_init.binds (ps := ["self", "row"]) fun _ _ _ _ _ _ us hl => match us, hl with | [_, _], _ => rfl
  have T_Text : OexC K G.xText := oexc_mk xk_Text ⟨_, _, _, _, _, _, _, _, _, _, _, _, _, _, _, xlText, by rfl⟩
  have XB_BadChange : XCls0 K mg G.xChange "BadChange" := ⟨mx_BadChange, exChange, kpChange, sbChange, tyChange⟩
  subst hC
  have cl_ : Cls K G.cC := ⟨pg, hd, po, sa⟩
  have nk_ : NoAttr K G.cC "kept_faces" := nK
  have mC := PySem.W.mg_of X GG aC
  have mC_ := mC
  have isC_ : IsC K G.cC := ⟨iA, iN, iT, iM⟩
  have F_l_text_of := fun_mk (st := s_l_text_of) l_l_text_of c_l_text_of k_l_text_of
  have b_l_text_of := F_l_text_of.binds (ps := ["_law_faces_here"]) fun _ _ _ _ _ _ us hl => match us, hl with | [_], _ => rfl
  have g_l_text_of := PySem.W.mg_of X GG a_l_text_of
  have F_l_taken := fun_mk (st := s_l_taken) l_l_taken c_l_taken k_l_taken
  have b_l_taken := F_l_taken.binds (ps := ["_law_row", "_law_many"]) fun _ _ _ _ _ _ us hl => match us, hl with | [_, _], _ => rfl
  have g_l_taken := PySem.W.mg_of X GG a_l_taken
  have F_l_names := fun_mk (st := s_l_names) l_l_names c_l_names k_l_names
  have b_l_names := F_l_names.binds (ps := ["_law_row", "_law_many"]) fun _ _ _ _ _ _ us hl => match us, hl with | [_, _], _ => rfl
  have g_l_names := PySem.W.mg_of X GG a_l_names
  have F_l_faces := fun_mk (st := s_l_faces) l_l_faces c_l_faces k_l_faces
  have b_l_faces := F_l_faces.binds (ps := ["_law_row", "_law_pool_here", "_law_most"]) fun _ _ _ _ _ _ us hl => match us, hl with | [_, _, _], _ => rfl
  have g_l_faces := PySem.W.mg_of X GG a_l_faces
  have F_l_pool := fun_mk (st := s_l_pool) l_l_pool c_l_pool k_l_pool
  have b_l_pool := F_l_pool.binds (ps := ["_law_row"]) fun _ _ _ _ _ _ us hl => match us, hl with | [_], _ => rfl
  have g_l_pool := PySem.W.mg_of X GG a_l_pool
  have F_l_alike := fun_mk (st := s_l_alike) l_l_alike c_l_alike k_l_alike
  have b_l_alike := F_l_alike.binds (ps := ["_law_found", "_law_due_here"]) fun _ _ _ _ _ _ us hl => match us, hl with | [_, _], _ => rfl
  have g_l_alike := PySem.W.mg_of X GG a_l_alike
  have F_l_number := fun_mk (st := s_l_number) l_l_number c_l_number k_l_number
  have b_l_number := F_l_number.binds (ps := ["_law_word"]) fun _ _ _ _ _ _ us hl => match us, hl with | [_], _ => rfl
  have g_l_number := PySem.W.mg_of X GG a_l_number
  have F_l_wrong := fun_mk (st := s_l_wrong) l_l_wrong c_l_wrong k_l_wrong
  have b_l_wrong := F_l_wrong.binds (ps := ["_law_faces_here"]) fun _ _ _ _ _ _ us hl => match us, hl with | [_], _ => rfl
  have g_l_wrong := PySem.W.mg_of X GG a_l_wrong
  have F_l_due := fun_mk (st := s_l_due) l_l_due c_l_due k_l_due
  have b_l_due := F_l_due.binds (ps := ["_law_text"]) fun _ _ _ _ _ _ us hl => match us, hl with | [_], _ => rfl
  have g_l_due := PySem.W.mg_of X GG a_l_due
  have F_is_name := fun_mk (st := s_is_name) l_is_name c_is_name k_is_name
  have b_is_name := F_is_name.binds (ps := ["text"]) fun _ _ _ _ _ _ us hl => match us, hl with | [_], _ => rfl
  have g_is_name := PySem.W.mg_of X GG a_is_name
  have F_number_of := fun_mk (st := s_number_of) l_number_of c_number_of k_number_of
  have b_number_of := F_number_of.binds (ps := ["word", "row"]) fun _ _ _ _ _ _ us hl => match us, hl with | [_, _], _ => rfl
  have g_number_of := PySem.W.mg_of X GG a_number_of
  have F_are_signs := fun_mk (st := s_are_signs) l_are_signs c_are_signs k_are_signs
  have b_are_signs := F_are_signs.binds (ps := ["signs"]) fun _ _ _ _ _ _ us hl => match us, hl with | [_], _ => rfl
  have g_are_signs := PySem.W.mg_of X GG a_are_signs
  have F_c___init := fun_mk (st := s_c___init) l_c___init c_c___init k_c___init
  have b_c___init := F_c___init.binds (ps := ["self", "faces"]) fun _ _ _ _ _ _ us hl => match us, hl with | [_, _], _ => rfl
  have F_read := fun_mk (st := s_read) l_read c_read k_read
  have b_read := F_read.binds (ps := ["text"]) fun _ _ _ _ _ _ us hl => match us, hl with | [_], _ => rfl
  have g_read := PySem.W.mg_of X GG a_read
  have F_c_faces := fun_mk (st := s_c_faces) l_c_faces c_c_faces k_c_faces
  have b_c_faces := F_c_faces.binds (ps := ["self"]) fun _ _ _ _ _ _ us hl => match us, hl with | [_], _ => rfl
  have F_l_told := fun_mk (st := s_l_told) l_l_told c_l_told k_l_told
  have b_l_told := F_l_told.binds (ps := ["_law_text"]) fun _ _ _ _ _ _ us hl => match us, hl with | [_], _ => rfl
  have g_l_told := PySem.W.mg_of X GG a_l_told
  have F_l_spoilt := fun_mk (st := s_l_spoilt) l_l_spoilt c_l_spoilt k_l_spoilt
  have b_l_spoilt := F_l_spoilt.binds (ps := ["_law_row", "_law_text"]) fun _ _ _ _ _ _ us hl => match us, hl with | [_, _], _ => rfl
  have g_l_spoilt := PySem.W.mg_of X GG a_l_spoilt
  have F_l_odd_text := fun_mk (st := s_l_odd_text) l_l_odd_text c_l_odd_text k_l_odd_text
  have b_l_odd_text := F_l_odd_text.binds (ps := ["_law_row"]) fun _ _ _ _ _ _ us hl => match us, hl with | [_], _ => rfl
  have g_l_odd_text := PySem.W.mg_of X GG a_l_odd_text
  have F_law := fun_mk (st := s_law) l_law c_law k_law
  refine ⟨PySem.W.fnOf "law" "law" (defArgs s_law) (defBody s_law) (defScope s_law) .none kV_law dc_law pm_law an_law cd_law ct_law, fun s v => .of_eq rfl, fun base _ _ => ?_⟩
  have XB_BadCase : XCls P w K mg base G.xCase "BadCase" ["self", "word", "number"] (spX2 G.xCase "word" "number") := ⟨T_Case, mx_BadCase, ad_BadCase_init, _, a_BadCase_init, tiCase, b_BadCase_init, ok_BadCase_init F_BadCase_init mx_FaceError FE_ T_Case nfCaseword nfCasenumber⟩
  have XB_BadSign : XCls P w K mg base G.xSign "BadSign" ["self", "place"] (spX1 G.xSign "place") := ⟨T_Sign, mx_BadSign, ad_BadSign_init, _, a_BadSign_init, tiSign, b_BadSign_init, ok_BadSign_init F_BadSign_init mx_FaceError FE_ T_Sign nfSignplace⟩
  have XB_BadRow : XCls P w K mg base G.xRow "BadRow" ["self", "place"] (spX1 G.xRow "place") := ⟨T_Row, mx_BadRow, ad_BadRow_init, _, a_BadRow_init, tiRow, b_BadRow_init, ok_BadRow_init F_BadRow_init mx_FaceError FE_ T_Row nfRowplace⟩
  have XB_BadText : XCls P w K mg base G.xText "BadText" ["self", "row"] (spX1 G.xText "row") := ⟨T_Text, mx_BadText, ad_BadText_init, _, a_BadText_init, tiText, b_BadText_init, ok_BadText_init F_BadText_init mx_FaceError FE_ T_Text nfTextrow⟩
  have C__law_text_of : Cal P w K mg base CX0 1 "_law_text_of" ["_law_faces_here"] (spD G f_text_of) := ⟨ad_l_text_of, _, g_l_text_of, k_l_text_of, b_l_text_of, ok_l_text_of (G := G) (base := base) (P := P) (w := w) F_l_text_of m_str⟩
  have C__law_taken : Cal P w K mg base CX0 1 "_law_taken" ["_law_row", "_law_many"] (spD G f_taken) := ⟨ad_l_taken, _, g_l_taken, k_l_taken, b_l_taken, ok_l_taken (G := G) (base := base) (P := P) (w := w) hK F_l_taken m_len⟩
  have C__law_names : Cal P w K mg base CX0 2 "_law_names" ["_law_row", "_law_many"] (spD G f_names) := ⟨ad_l_names, _, g_l_names, k_l_names, b_l_names, ok_l_names (G := G) (base := base) (P := P) (w := w) F_l_names m_range C__law_taken⟩
  have C__law_faces : Cal P w K mg base CX0 3 "_law_faces" ["_law_row", "_law_pool_here", "_law_most"] (spD G f_faces2) := ⟨ad_l_faces, _, g_l_faces, k_l_faces, b_l_faces, ok_l_faces (G := G) (base := base) (P := P) (w := w) F_l_faces m_min m_tuple C__law_names C__law_taken⟩
  have C__law_pool : Cal P w K mg base CX0 2 "_law_pool" ["_law_row"] (spD G f_pool) := ⟨ad_l_pool, _, g_l_pool, k_l_pool, b_l_pool, ok_l_pool (G := G) (base := base) (P := P) (w := w) F_l_pool m_range m_set m_sorted C__law_taken⟩
  have C__law_alike : Cal P w K mg base CX0 7 "_law_alike" ["_law_found", "_law_due_here"] (spD G (f_alk 6)) := ⟨ad_l_alike, _, g_l_alike, k_l_alike, b_l_alike, ok_l_alike (G := G) (base := base) (P := P) (w := w) F_l_alike g_l_alike k_l_alike b_l_alike m_bool m_int m_isinstance m_len m_list m_range m_str m_tuple 6⟩
  have C__law_number : Cal P w K mg base CX0 1 "_law_number" ["_law_word"] (spD G f_number) := ⟨ad_l_number, _, g_l_number, k_l_number, b_l_number, ok_l_number (G := G) (base := base) (P := P) (w := w) F_l_number m_int m_len⟩
  have C__law_wrong : Cal P w K mg base CX0 1 "_law_wrong" ["_law_faces_here"] (spD G f_wrong) := ⟨ad_l_wrong, _, g_l_wrong, k_l_wrong, b_l_wrong, ok_l_wrong (G := G) (base := base) (P := P) (w := w) F_l_wrong m_len m_list m_max m_min m_range m_set m_sorted⟩
  have C__law_due : Cal P w K mg base CX0 2 "_law_due" ["_law_text"] (spD G f_due2) := ⟨ad_l_due, _, g_l_due, k_l_due, b_l_due, ok_l_due (G := G) (base := base) (P := P) (w := w) F_l_due m_len m_range m_tuple C__law_number C__law_wrong⟩
  have C_is_name : Cal P w K mg base CX0 1 "is_name" ["text"] (spD G f_is_name) := ⟨ad_is_name, _, g_is_name, k_is_name, b_is_name, ok_is_name (G := G) (base := base) (P := P) (w := w) F_is_name m_LETTERS m_LONGEST_NAME m_len⟩
  have C_number_of : Cal P w K mg base (L2.CX P w) 3 "number_of" ["word", "row"] (spD G f_number_of2) := ⟨ad_number_of, _, g_number_of, k_number_of, b_number_of, ok_number_of (G := G) (base := base) (P := P) (w := w) F_number_of m_FIGURES m_int m_len XB_BadText⟩
  have C_are_signs : Cal P w K mg base CX0 1 "are_signs" ["signs"] (spD G f_are_signsG) := ⟨ad_are_signs, _, g_are_signs, k_are_signs, b_are_signs, ok_are_signs (G := G) (base := base) (P := P) (w := w) F_are_signs m_LIMIT m_MOST_SIGNS m_len m_range⟩
  have mk_Case : MkC P w K mg base (L2.CX P w) 3 G.cC "Case" (spI G f_Case2) := ⟨ad_c___init, _, ⟨mk, a_c___init, i_c___init, kc⟩, mC, b_c___init, ok_c___init (G := G) (base := base) (P := P) (w := w) F_c___init m_MOST_FACES m_MOST_RANK m_len m_list m_range cl_ nk_ XB_BadCase C_is_name C_are_signs⟩
  have C_read : Cal P w K mg base (L2.CX P w) 5 "read" ["text"] (spD G f_read2) := ⟨ad_read, _, g_read, k_read, b_read, ok_read (G := G) (base := base) (P := P) (w := w) F_read m_len m_range m_tuple XB_BadText C_is_name C_number_of mk_Case⟩
  have M_faces : CalM P w K mg base CX0 1 G.cC "faces" ["self"] (spD G f_faces) := ⟨ad_c_faces, _, ⟨a_c_faces, i_c_faces, k_c_faces⟩, b_c_faces, ok_c_faces (G := G) (base := base) (P := P) (w := w) F_c_faces m_list cl_ nk_⟩
  have C__law_told : Cal P w K mg base CX0 6 "_law_told" ["_law_text"] (spD G f_told) := ⟨ad_l_told, _, g_l_told, k_l_told, b_l_told, ok_l_told (G := G) (base := base) (P := P) (w := w) F_l_told m_ValueError m_isinstance cl_ nk_ XA_ mx_FaceError kit_value mx_BadCase kit_BadCase mx_BadSign kit_BadSign mx_BadRow kit_BadRow mx_BadChange kit_BadChange mx_BadText kit_BadText mC_ isC_ C_read M_faces⟩
  have C__law_spoilt : Cal P w K mg base CX0 2 "_law_spoilt" ["_law_row", "_law_text"] (spD G f_spoilt) := ⟨ad_l_spoilt, _, g_l_spoilt, k_l_spoilt, b_l_spoilt, ok_l_spoilt (G := G) (base := base) (P := P) (w := w) F_l_spoilt m_int m_len C__law_taken⟩
  have C__law_odd_text : Cal P w K mg base CX0 2 "_law_odd_text" ["_law_row"] (spD G f_odd_text) := ⟨ad_l_odd_text, _, g_l_odd_text, k_l_odd_text, b_l_odd_text, ok_l_odd_text (G := G) (base := base) (P := P) (w := w) F_l_odd_text m_range C__law_taken⟩
  exact ok_law hK F_law m_range C__law_text_of C__law_faces C__law_pool C__law_alike C__law_due C__law_told C__law_taken C__law_spoilt C__law_odd_text
end K14
end HD
open PySem PySem.W PyProof.Rows in
set_option maxRecDepth 100000 in
set_option maxHeartbeats 0 in
theorem PySem.Challenge.cw_fontfall_k14_texts_that_tell_no_case_holds : PySem.Challenge.rw_fontfall_k14_texts_that_tell_no_case.Holds := by
  w_on; o_law; k_head; (case hw => w_witness2)
  k_fill
  refine L2.walk_of (l := PySem.Challenge.rw_fontfall_k14_texts_that_tell_no_case) (n := 63) (k := 8) (x := "_law_script") (CX := fun _ => L2.CX0) (sp := fun w => HD.spLaw _) rfl (by decide) rfl ⟨rfl, by decide, by decide⟩ (fun w h Y => PySem.W.kIn_of Y) ?F (fun _ _ a ns hl hO hS => HD.law_sp hO hS) (fun _ _ _ _ _ h => h)
  case F =>
    intro w mg fa h KX GG hmg
    refine' HD.K14.all_mk KX GG hmg ?v_FIGURES ?v_LETTERS ?v_LIMIT ?v_LONGEST_NAME ?v_MOST_FACES ?v_MOST_RANK ?v_MOST_SIGNS ?z_ValueError ?z_bool ?z_int ?z_isinstance ?z_len ?z_list ?z_max ?z_min ?z_range ?z_set ?z_sorted ?z_str ?z_tuple ?aC ?pg ?hd ?po ?sa ?mk ?kc ?nK ?aF ?a_BadCase ?a_BadSign ?a_BadRow ?a_BadChange ?a_BadText ?rdF ?gaF ?atF ?sbF ?icF ?tyF ?xgn ?xtk ?icCase ?tyCase ?kpCase ?sbCase ?hdCase ?saCase ?gaCase ?gtCase ?ccCase ?moCase ?svCase ?sfCase ?ssCaseCase ?ssCaseSign ?ssCaseRow ?ssCaseChange ?ssCaseText ?nfCaseword ?nfCasenumber ?xlCase ?a_BadCase_init ?tiCase ?l_BadCase_init ?c_BadCase_init ?k_BadCase_init ?icSign ?tySign ?kpSign ?sbSign ?hdSign ?saSign ?gaSign ?gtSign ?ccSign ?moSign ?svSign ?sfSign ?ssSignCase ?ssSignSign ?ssSignRow ?ssSignChange ?ssSignText ?nfSignplace ?xlSign ?a_BadSign_init ?tiSign ?l_BadSign_init ?c_BadSign_init ?k_BadSign_init ?icRow ?tyRow ?kpRow ?sbRow ?hdRow ?saRow ?gaRow ?gtRow ?ccRow ?moRow ?svRow ?sfRow ?ssRowCase ?ssRowSign ?ssRowRow ?ssRowChange ?ssRowText ?nfRowplace ?xlRow ?a_BadRow_init ?tiRow ?l_BadRow_init ?c_BadRow_init ?k_BadRow_init ?icChange ?tyChange ?kpChange ?sbChange ?hdChange ?saChange ?gaChange ?gtChange ?ccChange ?moChange ?svChange ?sfChange ?ssChangeCase ?ssChangeSign ?ssChangeRow ?ssChangeChange ?ssChangeText ?exChange ?icText ?tyText ?kpText ?sbText ?hdText ?saText ?gaText ?gtText ?ccText ?moText ?svText ?sfText ?ssTextCase ?ssTextSign ?ssTextRow ?ssTextChange ?ssTextText ?nfTextrow ?xlText ?a_BadText_init ?tiText ?l_BadText_init ?c_BadText_init ?k_BadText_init ?iA ?iN ?iT ?iM ?a_l_text_of ?l_l_text_of ?c_l_text_of ?k_l_text_of ?a_l_taken ?l_l_taken ?c_l_taken ?k_l_taken ?a_l_names ?l_l_names ?c_l_names ?k_l_names ?a_l_faces ?l_l_faces ?c_l_faces ?k_l_faces ?a_l_pool ?l_l_pool ?c_l_pool ?k_l_pool ?a_l_alike ?l_l_alike ?c_l_alike ?k_l_alike ?a_l_number ?l_l_number ?c_l_number ?k_l_number ?a_l_wrong ?l_l_wrong ?c_l_wrong ?k_l_wrong ?a_l_due ?l_l_due ?c_l_due ?k_l_due ?a_is_name ?l_is_name ?c_is_name ?k_is_name ?a_number_of ?l_number_of ?c_number_of ?k_number_of ?a_are_signs ?l_are_signs ?c_are_signs ?k_are_signs ?a_c___init ?i_c___init ?l_c___init ?c_c___init ?k_c___init ?a_read ?l_read ?c_read ?k_read ?a_c_faces ?i_c_faces ?l_c_faces ?c_c_faces ?k_c_faces ?a_l_told ?l_l_told ?c_l_told ?k_l_told ?a_l_spoilt ?l_l_spoilt ?c_l_spoilt ?k_l_spoilt ?a_l_odd_text ?l_l_odd_text ?c_l_odd_text ?k_l_odd_text ?a_law ?l_law ?c_law ?k_law
    (case v_FIGURES => k_is)
    (case v_LETTERS => k_is)
    (case v_LIMIT => k_is)
    (case v_LONGEST_NAME => k_is)
    (case v_MOST_FACES => k_is)
    (case v_MOST_RANK => k_is)
    (case v_MOST_SIGNS => k_is)
    (case z_ValueError => k_is)
    (case z_bool => k_is)
    (case z_int => k_is)
    (case z_isinstance => k_is)
    (case z_len => k_is)
    (case z_list => k_is)
    (case z_max => k_is)
    (case z_min => k_is)
    (case z_range => k_is)
    (case z_set => k_is)
    (case z_sorted => k_is)
    (case z_str => k_is)
    (case z_tuple => k_is)
    (case aC => k_is)
    (case pg => k_is)
    (case hd => k_is)
    (case po => k_is)
    (case sa => k_is)
    (case mk => k_is)
    (case kc => k_is)
    (case nK => k_is)
    (case aF => k_is)
    (case a_BadCase => k_is)
    (case a_BadSign => k_is)
    (case a_BadRow => k_is)
    (case a_BadChange => k_is)
    (case a_BadText => k_is)
    (case rdF => k_is)
    (case gaF => k_is)
    (case atF => k_is)
    (case sbF => k_is)
    (case icF => k_is)
    (case tyF => k_is)
    (case xgn => k_is)
    (case xtk => k_is)
    (case icCase => k_is)
    (case tyCase => k_is)
    (case kpCase => k_is)
    (case sbCase => k_is)
    (case hdCase => k_is)
    (case saCase => k_is)
    (case gaCase => k_is)
    (case gtCase => k_is)
    (case ccCase => k_is)
    (case moCase => k_is)
    (case svCase => k_is)
    (case sfCase => k_is)
    (case ssCaseCase => k_is)
    (case ssCaseSign => k_is)
    (case ssCaseRow => k_is)
    (case ssCaseChange => k_is)
    (case ssCaseText => k_is)
    (case nfCaseword => k_is)
    (case nfCasenumber => k_is)
    (case xlCase => k_is)
    (case a_BadCase_init => k_is)
    (case tiCase => k_is)
    (case l_BadCase_init => k_is)
    (case c_BadCase_init => k_is)
    (case k_BadCase_init => k_is)
    (case icSign => k_is)
    (case tySign => k_is)
    (case kpSign => k_is)
    (case sbSign => k_is)
    (case hdSign => k_is)
    (case saSign => k_is)
    (case gaSign => k_is)
    (case gtSign => k_is)
    (case ccSign => k_is)
    (case moSign => k_is)
    (case svSign => k_is)
    (case sfSign => k_is)
    (case ssSignCase => k_is)
    (case ssSignSign => k_is)
    (case ssSignRow => k_is)
    (case ssSignChange => k_is)
    (case ssSignText => k_is)
    (case nfSignplace => k_is)
    (case xlSign => k_is)
    (case a_BadSign_init => k_is)
    (case tiSign => k_is)
    (case l_BadSign_init => k_is)
    (case c_BadSign_init => k_is)
    (case k_BadSign_init => k_is)
    (case icRow => k_is)
    (case tyRow => k_is)
    (case kpRow => k_is)
    (case sbRow => k_is)
    (case hdRow => k_is)
    (case saRow => k_is)
    (case gaRow => k_is)
    (case gtRow => k_is)
    (case ccRow => k_is)
    (case moRow => k_is)
    (case svRow => k_is)
    (case sfRow => k_is)
    (case ssRowCase => k_is)
    (case ssRowSign => k_is)
    (case ssRowRow => k_is)
    (case ssRowChange => k_is)
    (case ssRowText => k_is)
    (case nfRowplace => k_is)
    (case xlRow => k_is)
    (case a_BadRow_init => k_is)
    (case tiRow => k_is)
    (case l_BadRow_init => k_is)
    (case c_BadRow_init => k_is)
    (case k_BadRow_init => k_is)
    (case icChange => k_is)
    (case tyChange => k_is)
    (case kpChange => k_is)
    (case sbChange => k_is)
    (case hdChange => k_is)
    (case saChange => k_is)
    (case gaChange => k_is)
    (case gtChange => k_is)
    (case ccChange => k_is)
    (case moChange => k_is)
    (case svChange => k_is)
    (case sfChange => k_is)
    (case ssChangeCase => k_is)
    (case ssChangeSign => k_is)
    (case ssChangeRow => k_is)
    (case ssChangeChange => k_is)
    (case ssChangeText => k_is)
    (case exChange => k_exc)
    (case icText => k_is)
    (case tyText => k_is)
    (case kpText => k_is)
    (case sbText => k_is)
    (case hdText => k_is)
    (case saText => k_is)
    (case gaText => k_is)
    (case gtText => k_is)
    (case ccText => k_is)
    (case moText => k_is)
    (case svText => k_is)
    (case sfText => k_is)
    (case ssTextCase => k_is)
    (case ssTextSign => k_is)
    (case ssTextRow => k_is)
    (case ssTextChange => k_is)
    (case ssTextText => k_is)
    (case nfTextrow => k_is)
    (case xlText => k_is)
    (case a_BadText_init => k_is)
    (case tiText => k_is)
    (case l_BadText_init => k_is)
    (case c_BadText_init => k_is)
    (case k_BadText_init => k_is)
    (case iA => k_is)
    (case iN => k_is)
    (case iT => k_is)
    (case iM => k_is)
    (case a_l_text_of => k_is)
    (case l_l_text_of => k_is)
    (case c_l_text_of => k_is)
    (case k_l_text_of => k_is)
    (case a_l_taken => k_is)
    (case l_l_taken => k_is)
    (case c_l_taken => k_is)
    (case k_l_taken => k_is)
    (case a_l_names => k_is)
    (case l_l_names => k_is)
    (case c_l_names => k_is)
    (case k_l_names => k_is)
    (case a_l_faces => k_is)
    (case l_l_faces => k_is)
    (case c_l_faces => k_is)
    (case k_l_faces => k_is)
    (case a_l_pool => k_is)
    (case l_l_pool => k_is)
    (case c_l_pool => k_is)
    (case k_l_pool => k_is)
    (case a_l_alike => k_is)
    (case l_l_alike => k_is)
    (case c_l_alike => k_is)
    (case k_l_alike => k_is)
    (case a_l_number => k_is)
    (case l_l_number => k_is)
    (case c_l_number => k_is)
    (case k_l_number => k_is)
    (case a_l_wrong => k_is)
    (case l_l_wrong => k_is)
    (case c_l_wrong => k_is)
    (case k_l_wrong => k_is)
    (case a_l_due => k_is)
    (case l_l_due => k_is)
    (case c_l_due => k_is)
    (case k_l_due => k_is)
    (case a_is_name => k_is)
    (case l_is_name => k_is)
    (case c_is_name => k_is)
    (case k_is_name => k_is)
    (case a_number_of => k_is)
    (case l_number_of => k_is)
    (case c_number_of => k_is)
    (case k_number_of => k_is)
    (case a_are_signs => k_is)
    (case l_are_signs => k_is)
    (case c_are_signs => k_is)
    (case k_are_signs => k_is)
    (case a_c___init => k_is)
    (case i_c___init => k_is)
    (case l_c___init => k_is)
    (case c_c___init => k_is)
    (case k_c___init => k_is)
    (case a_read => k_is)
    (case l_read => k_is)
    (case c_read => k_is)
    (case k_read => k_is)
    (case a_c_faces => k_is)
    (case i_c_faces => k_is)
    (case l_c_faces => k_is)
    (case c_c_faces => k_is)
    (case k_c_faces => k_is)
    (case a_l_told => k_is)
    (case l_l_told => k_is)
    (case c_l_told => k_is)
    (case k_l_told => k_is)
    (case a_l_spoilt => k_is)
    (case l_l_spoilt => k_is)
    (case c_l_spoilt => k_is)
    (case k_l_spoilt => k_is)
    (case a_l_odd_text => k_is)
    (case l_l_odd_text => k_is)
    (case c_l_odd_text => k_is)
    (case k_l_odd_text => k_is)
    (case a_law => k_is)
    (case l_law => k_is)
    (case c_law => k_is)
    (case k_law => k_is)


