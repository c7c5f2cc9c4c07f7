import PyProof.Rows.All
import Wide.All
import OpenK.AllK
import Wide.FinOn
import HandS.ForMost
import HandS.TupAny
import HandS.Zip
import KE.KDictKeyed
import KE.KeyNested
import HandS.Deep
import HandS.TupMul
import HandS.TupLe
import HandS.Property
import KE.KDictCopyH
import KE.KDictPairs
import KE.KDictOf
import HandS.TupLen
import HandS.Ends
import PyProof.Rows.RegFStrParts
import PySem.Challenge.RW_everymerge_k66_what_all_know
set_option Elab.async false
set_option linter.all false
set_option maxRecDepth 100000
set_option maxHeartbeats 4000000
namespace DL
open PySem L2

/-- the written part, the program, the world -/
structure Kw where
  K : PySem.W.Frag
  P : Program
  w : World
abbrev kw (X : Cx) : Kw := ⟨X.K, X.prog, X.w⟩
/-! ### values and objects at the level of data -/
inductive DV where
  | d (x : PyData)
  | ref (a : Addr)
  | tp (xs : List DV)
inductive DO where
  | lst (xs : List DV)
  /-- a list that is read alone (the script) -/
  | ro (xs : List DV)
  | ins (C dx : Addr) (fs : List (Str × DV))
  | dK (kvs : List (Key × DV))
  /-- a dict whose keys are tuples, nested ones too -/
  | dN (kvs : List (NestedKey × DV))
  /-- such a dict while it is walked -/
  | roN (kvs : List (NestedKey × DV))
abbrev DM := Addr → Option DO
def put (M : DM) (a : Addr) (o : DO) : DM := fun b => if b = a then some o else M b
def del (M : DM) (a : Addr) : DM := fun b => if b = a then none else M b
theorem put_same {M : DM} {a : Addr} {o : DO} : put M a o a = some o := by unfold put; rw [if_pos rfl]
theorem put_ne {M : DM} {a b : Addr} {o : DO} (h : b ≠ a) : put M a o b = M b := by unfold put; rw [if_neg h]
theorem del_same {M : DM} {a : Addr} : del M a a = none := by unfold del; rw [if_pos rfl]
theorem del_ne {M : DM} {a b : Addr} (h : b ≠ a) : del M a b = M b := by unfold del; rw [if_neg h]
theorem put_put {M : DM} {a : Addr} {o u : DO} : put (put M a o) a u = put M a u := by
  funext b; unfold put; split <;> rfl
theorem del_put {M : DM} {a : Addr} {o : DO} (h : M a = none) : del (put M a o) a = M := by
  funext b; unfold del put
  by_cases e : b = a
  · rw [if_pos e, e, h]
  · rw [if_neg e, if_neg e]
theorem put_comm {M : DM} {a b : Addr} {o u : DO} (h : a ≠ b) : put (put M a o) b u = put (put M b u) a o := by
  funext c; unfold put
  by_cases e1 : c = b
  · by_cases e2 : c = a
    · exact absurd (e2.symm.trans e1) h
    · rw [if_pos e1, if_neg e2, if_pos e1]
  · rw [if_neg e1]
    by_cases e2 : c = a
    · rw [if_pos e2, if_pos e2]
    · rw [if_neg e2, if_neg e2, if_neg e1]

/-! ### data in the frozen heap -/
mutual
inductive DD (K : Kw) (B : Hp) : V → PyData → Prop
  | non : DD K B .non .none
  | bl (b : Bool) : DD K B (.bl b) (.bool b)
  | int (i : Int) : DD K B (.int i) (.int i)
  | str (x : Str) : DD K B (.str x) (.str x)
  | lst {a : Addr} {xs : List V} {ds : List PyData} : B a = some (.lst xs) → DDs K B xs ds → DD K B (.ref a) (.list ds)
  | tup {a : Addr} {xs : List V} {ds : List PyData} : SqT K.K B a xs → DDs K B xs ds → DD K B (.ref a) (.tuple ds)
inductive DDs (K : Kw) (B : Hp) : List V → List PyData → Prop
  | nil : DDs K B [] []
  | cons {v : V} {vs : List V} {d : PyData} {ds : List PyData} : DD K B v d → DDs K B vs ds → DDs K B (v :: vs) (d :: ds)
end
mutual
theorem dp_mono {K : Kw} {H H' : Hp} (s : Same H H') : ∀ (x : PyData) (v : V), DD K H v x → DD K H' v x
  | .none, _, h => by cases h; exact .non
  | .bool b, _, h => by cases h; exact .bl b
  | .int i, _, h => by cases h; exact .int i
  | .str z, _, h => by cases h; exact .str z
  | .list ds, _, h => by
    cases h with
    | lst h1 h2 => exact .lst (s _ _ h1) (dp_monoL s ds _ h2)
  | .tuple ds, _, h => by
    cases h with
    | tup h1 h2 =>
      refine .tup ?_ (dp_monoL s ds _ h2)
      rcases h1 with (h | ⟨o, h⟩) | h
      · exact .inl (.inl (s _ _ h))
      · exact .inl (.inr ⟨o, s _ _ h⟩)
      · exact .inr h
  | .dict _, _, h => by cases h
theorem dp_monoL {K : Kw} {H H' : Hp} (s : Same H H') : ∀ (xs : List PyData) (vs : List V), DDs K H vs xs → DDs K H' vs xs
  | [], _, h => by cases h; exact .nil
  | x :: xs, _, h => by
    cases h with
    | cons h1 h2 => exact .cons (dp_mono s x _ h1) (dp_monoL s xs _ h2)
end
mutual
theorem DD.dp {K : Kw} {H : Hp} : ∀ {x : PyData} {v : V}, DD K H v x → Dp K.K H v x
  | .none, _, h => by cases h; exact .non
  | .bool b, _, h => by cases h; exact .bl b
  | .int i, _, h => by cases h; exact .int i
  | .str z, _, h => by cases h; exact .str z
  | .list ds, _, h => by
    cases h with
    | lst h1 h2 => exact .lst (.of h1) (DDs.dp h2)
  | .tuple ds, _, h => by
    cases h with
    | tup h1 h2 => exact .tup h1 (DDs.dp h2)
  | .dict _, _, h => by cases h
theorem DDs.dp {K : Kw} {H : Hp} : ∀ {xs : List PyData} {vs : List V}, DDs K H vs xs → DpAll K.K H vs xs
  | [], _, h => by cases h; exact .nil
  | x :: xs, _, h => by
    cases h with
    | cons h1 h2 => exact .cons (DD.dp h1) (DDs.dp h2)
end
theorem same_seqT {K : Kw} {H H' : Hp} {a : Addr} {xs : List V} (s : Same H H') (h1 : SqT K.K H a xs) : SqT K.K H' a xs := by
  rcases h1 with (h | ⟨o, h⟩) | h
  · exact .inl (.inl (s _ _ h))
  · exact .inl (.inr ⟨o, s _ _ h⟩)
  · exact .inr h

mutual
inductive RV (K : Kw) (B : Hp) : V → DV → Prop
  | d {v : V} {x : PyData} : DD K B v x → RV K B v (.d x)
  | ref (a : Addr) : RV K B (.ref a) (.ref a)
  | tp {a : Addr} {vs : List V} {ds : List DV} : SqT K.K B a vs → RVs K B vs ds → RV K B (.ref a) (.tp ds)
inductive RVs (K : Kw) (B : Hp) : List V → List DV → Prop
  | nil : RVs K B [] []
  | cons {v : V} {vs : List V} {x : DV} {xs : List DV} : RV K B v x → RVs K B vs xs → RVs K B (v :: vs) (x :: xs)
end
mutual
theorem RV.mono {K : Kw} {B B' : Hp} (s : Same B B') : ∀ {d : DV} {v : V}, RV K B v d → RV K B' v d
  | .d x, v, h => by cases h with | d h => exact .d (dp_mono s x v h)
  | .ref a, v, h => by cases h; exact .ref a
  | .tp xs, v, h => by cases h with | tp h1 h2 => exact .tp (same_seqT s h1) (RVs.mono s h2)
theorem RVs.mono {K : Kw} {B B' : Hp} (s : Same B B') : ∀ {ds : List DV} {vs : List V}, RVs K B vs ds → RVs K B' vs ds
  | [], vs, h => by cases h; exact .nil
  | x :: xs, vs, h => by cases h with | cons h1 h2 => exact .cons (RV.mono s h1) (RVs.mono s h2)
end
theorem RVs.length {K : Kw} {B : Hp} : ∀ {ds : List DV} {vs : List V}, RVs K B vs ds → vs.length = ds.length
  | [], vs, h => by cases h; rfl
  | x :: xs, vs, h => by
    cases h with
    | cons h1 h2 => simp [RVs.length h2]
theorem RVs.get {K : Kw} {B : Hp} : ∀ {ds : List DV} {vs : List V} {i : Nat} {d : DV}, RVs K B vs ds → ds[i]? = some d → ∃ v, vs[i]? = some v ∧ RV K B v d
  | [], vs, i, d, h, e => by simp at e
  | x :: xs, vs, i, d, h, e => by
    cases h with
    | cons h1 h2 =>
      cases i with
      | zero => simp at e; subst e; exact ⟨_, rfl, h1⟩
      | succ i => simp at e ⊢; exact RVs.get h2 e
theorem RVs.getV {K : Kw} {B : Hp} : ∀ {ds : List DV} {vs : List V} {i : Nat} {v : V}, RVs K B vs ds → vs[i]? = some v → ∃ d, ds[i]? = some d ∧ RV K B v d
  | [], vs, i, d, h, e => by cases h; simp at e
  | x :: xs, vs, i, d, h, e => by
    cases h with
    | cons h1 h2 =>
      cases i with
      | zero => simp at e; subst e; exact ⟨_, rfl, h1⟩
      | succ i => simp at e ⊢; exact RVs.getV h2 e
theorem RVs.append {K : Kw} {B : Hp} : ∀ {ds es : List DV} {vs us : List V}, RVs K B vs ds → RVs K B us es → RVs K B (vs ++ us) (ds ++ es)
  | [], es, vs, us, h, g => by cases h; exact g
  | x :: xs, es, vs, us, h, g => by
    cases h with
    | cons h1 h2 => exact .cons h1 (RVs.append h2 g)
theorem RVs.set {K : Kw} {B : Hp} {v : V} {d : DV} (r : RV K B v d) : ∀ {ds : List DV} {vs : List V} (i : Nat), RVs K B vs ds → RVs K B (vs.set i v) (ds.set i d)
  | [], vs, i, h => by cases h; exact .nil
  | x :: xs, vs, i, h => by
    cases h with
    | cons h1 h2 =>
      cases i with
      | zero => exact .cons r h2
      | succ i => exact .cons h1 (RVs.set r i h2)
theorem RVs.drop {K : Kw} {B : Hp} : ∀ {ds : List DV} {vs : List V} (n : Nat), RVs K B vs ds → RVs K B (vs.drop n) (ds.drop n)
  | ds, vs, 0, h => h
  | [], vs, n + 1, h => by cases h; exact .nil
  | x :: xs, vs, n + 1, h => by
    cases h with
    | cons h1 h2 => exact RVs.drop n h2
theorem RVs.take {K : Kw} {B : Hp} : ∀ {ds : List DV} {vs : List V} (n : Nat), RVs K B vs ds → RVs K B (vs.take n) (ds.take n)
  | ds, vs, 0, h => .nil
  | [], vs, n + 1, h => by cases h; exact .nil
  | x :: xs, vs, n + 1, h => by
    cases h with
    | cons h1 h2 => exact .cons h1 (RVs.take n h2)
theorem RVs.ofDp {K : Kw} {B : Hp} : ∀ {xs : List PyData} {vs : List V}, DDs K B vs xs → RVs K B vs (xs.map DV.d)
  | [], vs, h => by cases h; exact .nil
  | x :: xs, vs, h => by
    cases h with
    | cons h1 h2 => exact .cons (.d h1) (RVs.ofDp h2)
/-- the data of a list of values, where all are data -/
def dataL : List DV → Option (List PyData)
  | [] => some []
  | .d x :: r => match dataL r with
    | some xs => some (x :: xs)
    | none => none
  | _ :: _ => none
theorem dataL_eq : ∀ {ds : List DV} {xs : List PyData}, dataL ds = some xs → ds = xs.map DV.d
  | [], xs, h => by cases h; rfl
  | .d x :: r, xs, h => by
    unfold dataL at h
    cases e : dataL r with
    | none => rw [e] at h; cases h
    | some ys => rw [e] at h; cases h; rw [dataL_eq e]; rfl
  | .ref a :: r, xs, h => by cases h
  | .tp a :: r, xs, h => by cases h
theorem dataL_map : ∀ (xs : List PyData), dataL (xs.map DV.d) = some xs
  | [] => rfl
  | x :: xs => by
    show (match dataL (xs.map DV.d) with | some ys => some (x :: ys) | none => none) = _
    rw [dataL_map xs]
theorem RVs.toDp {K : Kw} {B : Hp} : ∀ {xs : List PyData} {vs : List V}, RVs K B vs (xs.map DV.d) → DDs K B vs xs
  | [], vs, h => by cases h; exact .nil
  | x :: xs, vs, h => by
    cases h with
    | cons h1 h2 =>
      cases h1 with
      | d h1 => exact .cons h1 (RVs.toDp h2)
/-- a tuple of values -/
def mkTup (ds : List DV) : DV := match dataL ds with
  | some xs => .d (.tuple xs)
  | none => .tp ds
theorem mkTup_map (xs : List PyData) : mkTup (xs.map DV.d) = .d (.tuple xs) := by unfold mkTup; rw [dataL_map]
theorem RV.mkTup {K : Kw} {B : Hp} {a : Addr} {vs : List V} {ds : List DV} (h : SqT K.K B a vs) (r : RVs K B vs ds) : RV K B (.ref a) (mkTup ds) := by
  unfold DL.mkTup
  split
  · rename_i xs e
    have e' := dataL_eq e
    subst e'
    exact .d (.tup h r.toDp)
  · exact .tp h r
/-- the items of a tuple -/
def tupOf : DV → Option (List DV)
  | .d (.tuple xs) => some (xs.map DV.d)
  | .tp xs => some xs
  | _ => none
theorem tupOf_mkTup (ds : List DV) : tupOf (mkTup ds) = some ds := by
  unfold mkTup
  split
  · rename_i xs e
    show some (xs.map DV.d) = some ds
    rw [dataL_eq e]
  · rfl
theorem RV.tup {K : Kw} {B : Hp} {v : V} {d : DV} {ds : List DV} (r : RV K B v d) (e : tupOf d = some ds) : ∃ a vs, v = .ref a ∧ SqT K.K B a vs ∧ RVs K B vs ds := by
  cases d with
  | d x =>
    cases x <;> try (cases e)
    cases r with
    | d r =>
      cases r with
      | tup h1 h2 => exact ⟨_, _, rfl, h1, RVs.ofDp h2⟩
  | ref a => cases e
  | tp xs =>
    cases e
    cases r with
    | tp h1 h2 => exact ⟨_, _, rfl, h1, h2⟩

/-! ### what a mutable object is -/
inductive RKV {κ : Type} (K : Kw) (B : Hp) : List (κ × V) → List (κ × DV) → Prop
  | nil : RKV K B [] []
  | cons {k : κ} {v : V} {d : DV} {r : List (κ × V)} {s : List (κ × DV)} : RV K B v d → RKV K B r s → RKV K B ((k, v) :: r) ((k, d) :: s)
theorem RKV.mono {κ : Type} {K : Kw} {B B' : Hp} (s : Same B B') : ∀ {xs : List (κ × V)} {ys : List (κ × DV)}, RKV K B xs ys → RKV K B' xs ys
  | _, _, .nil => .nil
  | _, _, .cons r t => .cons (r.mono s) (RKV.mono s t)
theorem RKV.length {κ : Type} {K : Kw} {B : Hp} : ∀ {xs : List (κ × V)} {ys : List (κ × DV)}, RKV K B xs ys → xs.length = ys.length
  | _, _, .nil => rfl
  | _, _, .cons r t => by simp [RKV.length t]
theorem RKV.lookup {K : Kw} {B : Hp} {f : Str} : ∀ {xs : List (Str × V)} {ys : List (Str × DV)} {d : DV}, RKV K B xs ys → ys.lookup f = some d → ∃ v, xs.lookup f = some v ∧ RV K B v d
  | _, _, d, .nil, e => by simp at e
  | _, _, d, .cons (k := k) r t, e => by
    by_cases h : f = k
    · subst h
      simp at e ⊢
      subst e
      exact r
    · have h' : (f == k) = false := by simpa using h
      simp [List.lookup, h'] at e ⊢
      exact RKV.lookup t e
theorem RKV.lookup_none {K : Kw} {B : Hp} {f : Str} : ∀ {xs : List (Str × V)} {ys : List (Str × DV)}, RKV K B xs ys → ys.lookup f = none → xs.lookup f = none
  | _, _, .nil, e => by simp
  | _, _, .cons (k := k) r t, e => by
    by_cases h : f = k
    · subst h; simp at e
    · have h' : (f == k) = false := by simpa using h
      have e1 : List.lookup f ((k, _) :: _) = none := e
      rw [List.lookup_cons, h'] at e1 ⊢
      exact RKV.lookup_none t e1
def putD (f : Str) (v : DV) : List (Str × DV) → List (Str × DV)
  | [] => [(f, v)]
  | (g, u) :: r => if g = f then (f, v) :: r else (g, u) :: putD f v r

/-- the entries of a dict whose keys are tuples: key, where the key's tuple stands, value -/
inductive REN (K : Kw) (B : Hp) : List (NestedKey × Addr × V) → List (NestedKey × DV) → Prop
  | nil : REN K B [] []
  | cons {k : NestedKey} {q : Addr} {v : V} {d : DV} {r : List (NestedKey × Addr × V)} {s : List (NestedKey × DV)} : DD K B (.ref q) k.data → k.depth ≤ 8 → RV K B v d → REN K B r s → REN K B ((k, q, v) :: r) ((k, d) :: s)
theorem REN.mono {K : Kw} {B B' : Hp} (s : Same B B') : ∀ {xs : List (NestedKey × Addr × V)} {ys : List (NestedKey × DV)}, REN K B xs ys → REN K B' xs ys
  | _, _, .nil => .nil
  | _, _, .cons a b c t => .cons (dp_mono s _ _ a) b (c.mono s) (REN.mono s t)
theorem REN.length {K : Kw} {B : Hp} : ∀ {xs : List (NestedKey × Addr × V)} {ys : List (NestedKey × DV)}, REN K B xs ys → xs.length = ys.length
  | _, _, .nil => rfl
  | _, _, .cons _ _ _ t => by simp [REN.length t]
theorem REN.keys {K : Kw} {B : Hp} : ∀ {xs : List (NestedKey × Addr × V)} {ys : List (NestedKey × DV)}, REN K B xs ys → xs.map (·.1) = ys.map (·.1)
  | _, _, .nil => rfl
  | _, _, .cons _ _ _ t => by simp [REN.keys t]
/-- what the model's dict at a is, by its own object alone -/
def dictAt (K : Kw) (a : Addr) (raw : List (NestedKey × Addr × V)) : Heap → Prop := fun h =>
  (a == sysModules) = false ∧ raw.length ≤ sizeLine ∧ (raw.map (·.1)).Nodup ∧ ∃ (o : Obj) (es : Array DictEntry) (ep : Nat) (vs : List (NestedKey × Addr × Value)),
    h.get? a = some o ∧ o.ExactDict ∧ o.data = .dict es ep ∧ Paired (fun p q => p.1 = q.1 ∧ p.2.1 = q.2.1 ∧ RelV p.2.2 q.2.2) raw vs ∧ es.toList = vs.map (entryOfKey (nestedKind K.P K.w))
theorem dictAt.stay {K : Kw} {a : Addr} {raw : List (NestedKey × Addr × V)} {h h' : Heap} (x : dictAt K a raw h) (k : ∀ o, h.get? a = some o → h'.get? a = some o) : dictAt K a raw h' := by
  obtain ⟨h1, h2, h3, o, es, ep, vs, e, r⟩ := x
  exact ⟨h1, h2, h3, o, es, ep, vs, k o e, r⟩
inductive RO (K : Kw) (B : Hp) (a : Addr) : HO → DO → Prop
  | l {vs : List V} {ds : List DV} : RVs K B vs ds → RO K B a (.lst vs) (.lst ds)
  | r {o : Obj} {vs : List V} {ds : List DV} : RVs K B vs ds → RO K B a (.frz o (.lst vs)) (.ro ds)
  | i {C dx : Addr} {fv : List (Str × V)} {fs : List (Str × DV)} : RKV K B fv fs → RO K B a (.ins C dx fv) (.ins C dx fs)
  | k {kv : List (Key × V)} {kd : List (Key × DV)} : RKV K B kv kd → RO K B a (.dK kv) (.dK kd)
  | n {raw : List (NestedKey × Addr × V)} {kd : List (NestedKey × DV)} : REN K B raw kd → RO K B a (.ext (dictAt K a raw)) (.dN kd)
  | f {o : Obj} {raw : List (NestedKey × Addr × V)} {kd : List (NestedKey × DV)} : REN K B raw kd → RO K B a (.frz o (.ext (dictAt K a raw))) (.roN kd)
theorem RO.mono {K : Kw} {B B' : Hp} {a : Addr} (s : Same B B') {h : HO} {o : DO} (r : RO K B a h o) : RO K B' a h o := by
  cases r with
  | l r => exact .l (RVs.mono s r)
  | r r => exact .r (RVs.mono s r)
  | i r => exact .i (r.mono s)
  | k r => exact .k (r.mono s)
  | n r => exact .n (r.mono s)
  | f r => exact .f (r.mono s)
theorem RO.ro {K : Kw} {B : Hp} {a : Addr} {h : HO} {ds : List DV} (r : RO K B a h (.ro ds)) : ∃ ob vs, h = .frz ob (.lst vs) ∧ RVs K B vs ds := by
  cases r with | r r => exact ⟨_, _, rfl, r⟩
theorem RO.lst {K : Kw} {B : Hp} {a : Addr} {h : HO} {ds : List DV} (r : RO K B a h (.lst ds)) : ∃ vs, h = .lst vs ∧ RVs K B vs ds := by
  cases r with | l r => exact ⟨_, rfl, r⟩
theorem RO.ins {K : Kw} {B : Hp} {a : Addr} {h : HO} {C dx : Addr} {fs : List (Str × DV)} (r : RO K B a h (.ins C dx fs)) : ∃ fv, h = .ins C dx fv ∧ RKV K B fv fs := by
  cases r with | i r => exact ⟨_, rfl, r⟩
theorem RO.dK {K : Kw} {B : Hp} {a : Addr} {h : HO} {ds : List (Key × DV)} (r : RO K B a h (.dK ds)) : ∃ vs, h = .dK vs ∧ RKV K B vs ds := by
  cases r with | k r => exact ⟨_, rfl, r⟩
theorem RO.dN {K : Kw} {B : Hp} {a : Addr} {h : HO} {ds : List (NestedKey × DV)} (r : RO K B a h (.dN ds)) : ∃ raw, h = .ext (dictAt K a raw) ∧ REN K B raw ds := by
  cases r with | n r => exact ⟨_, rfl, r⟩
theorem RO.roN {K : Kw} {B : Hp} {a : Addr} {h : HO} {ds : List (NestedKey × DV)} (r : RO K B a h (.roN ds)) : ∃ o raw, h = .frz o (.ext (dictAt K a raw)) ∧ REN K B raw ds := by
  cases r with | f r => exact ⟨_, _, rfl, r⟩

/-! ### the two heaps beside HandS's one: B what is frozen, M what may change -/
structure Rel (K : Kw) (B : Hp) (M : DM) (H : Hp) : Prop where
  sub : Same B H
  rel : ∀ a o, M a = some o → B a = none ∧ ∃ h, H a = some h ∧ RO K B a h o
theorem Rel.get {K : Kw} {B : Hp} {M : DM} {H : Hp} (r : Rel K B M H) {a : Addr} {o : DO} (e : M a = some o) : ∃ h, H a = some h ∧ RO K B a h o := (r.rel a o e).2
theorem Rel.freshB {K : Kw} {B : Hp} {M : DM} {H : Hp} (r : Rel K B M H) {a : Addr} (e : H a = none) : B a = none := r.sub.free e
theorem Rel.freshM {K : Kw} {B : Hp} {M : DM} {H : Hp} (r : Rel K B M H) {a : Addr} (e : H a = none) : M a = none := by
  cases q : M a with
  | none => rfl
  | some o =>
    obtain ⟨h, e', _⟩ := r.get q
    rw [e] at e'; cases e'
structure Step (K : Kw) (B : Hp) (M : DM) (H : Hp) (B' : Hp) (M' : DM) (H' : Hp) : Prop where
  same : Same B B'
  to : Rel K B' M' H'
  frame : ∀ a o, H a = some o → M a = none → B a = none → H' a = some o ∧ M' a = none ∧ B' a = none
  grow : ∀ a, H' a = none → H a = none
  frz : ∀ a o u, H a = some (.frz o u) → H' a = some (.frz o u)
/-- what may be written -/
def isMut : DO → Bool
  | .ro _ => false
  | .roN _ => false
  | _ => true
theorem RO.nofrz {K : Kw} {B : Hp} {a : Addr} {h : HO} {o : DO} (r : RO K B a h o) (m : isMut o = true) : ∀ ob u, h ≠ .frz ob u := fun ob u e => by
  subst e
  cases r <;> cases m
section
variable {K : Kw} {B B1 B2 : Hp} {M M1 M2 : DM} {H H1 H2 : Hp}
theorem Step.refl (r : Rel K B M H) : Step K B M H B M H := ⟨Same.refl B, r, fun a o h1 h2 h3 => ⟨h1, h2, h3⟩, fun _ h => h, fun _ _ _ h => h⟩
theorem Step.trans (a : Step K B M H B1 M1 H1) (b : Step K B1 M1 H1 B2 M2 H2) : Step K B M H B2 M2 H2 :=
  ⟨a.same.trans b.same, b.to, fun c o h1 h2 h3 => let ⟨x, y, z⟩ := a.frame c o h1 h2 h3; b.frame c o x y z, fun c h => a.grow c (b.grow c h), fun c o u h => b.frz c o u (a.frz c o u h)⟩
theorem upd_none {H : Hp} {a b : Addr} {o : HO} (h : upd H a o b = none) : H b = none := by
  unfold upd at h
  split at h
  · cases h
  · exact h
/-- a new thing that nobody knows of -/
theorem Step.junk (r : Rel K B M H) {p : Addr} (hp : H p = none) (o : HO) : Step K B M H B M (upd H p o) :=
  ⟨Same.refl B, ⟨fun b u e => by rw [upd_ne (ne_of_none (r.sub _ _ e) hp)]; exact r.sub _ _ e, fun a u e => by
      obtain ⟨h1, h, h2, h3⟩ := r.rel a u e
      exact ⟨h1, h, by rw [upd_ne (ne_of_none h2 hp)]; exact h2, h3⟩⟩,
    fun a u h1 h2 h3 => ⟨by rw [upd_ne (ne_of_none h1 hp)]; exact h1, h2, h3⟩, fun _ h => upd_none h, fun _ _ _ h => by rw [upd_ne (ne_of_none h hp)]; exact h⟩
theorem same_new {p : Addr} {o : HO} (hp : B p = none) : Same B (upd B p o) := fun b u e => by rw [upd_ne (ne_of_none e hp)]; exact e
/-- a new frozen object -/
theorem Step.newB (r : Rel K B M H) {p : Addr} (hp : H p = none) (o : HO) : Step K B M H (upd B p o) M (upd H p o) := by
  have s := same_new (o := o) (r.freshB hp)
  have j := Step.junk r hp o
  refine ⟨s, ⟨fun b u e => ?_, fun a u e => ?_⟩, fun a u h1 h2 h3 => ?_, fun _ h => upd_none h, j.frz⟩
  · by_cases q : b = p
    · subst q; rw [upd_same] at e ⊢; exact e
    · rw [upd_ne q] at e ⊢; exact r.sub _ _ e
  · obtain ⟨h1, h, h2, h3⟩ := r.rel a u e
    have ne := ne_of_none h2 hp
    exact ⟨by rw [upd_ne ne]; exact h1, h, by rw [upd_ne ne]; exact h2, h3.mono s⟩
  · obtain ⟨x, y, z⟩ := j.frame a u h1 h2 h3
    exact ⟨x, y, by rw [upd_ne (ne_of_none h1 hp)]; exact z⟩
/-- a new mutable object -/
theorem Step.newM (r : Rel K B M H) {p : Addr} (hp : H p = none) {h : HO} {o : DO} (ro : RO K B p h o) : Step K B M H B (put M p o) (upd H p h) := by
  have j := Step.junk r hp h
  refine ⟨Same.refl B, ⟨j.to.sub, fun a u e => ?_⟩, fun a u h1 h2 h3 => ?_, fun _ h => upd_none h, j.frz⟩
  · by_cases q : a = p
    · subst q
      rw [put_same] at e; cases e
      exact ⟨r.freshB hp, h, upd_same, ro⟩
    · rw [put_ne q] at e
      exact j.to.rel a u e
  · obtain ⟨x, y, z⟩ := j.frame a u h1 h2 h3
    exact ⟨x, by rw [put_ne (ne_of_none h1 hp)]; exact y, z⟩
/-- a mutable object changes -/
theorem Step.mut (r : Rel K B M H) {p : Addr} {o0 : DO} (e0 : M p = some o0) (hm : isMut o0 = true) {h : HO} {o : DO} (ro : RO K B p h o) : Step K B M H B (put M p o) (upd H p h) := by
  obtain ⟨b0, h0, e1, ro0⟩ := r.rel p o0 e0
  refine ⟨Same.refl B, ⟨fun b u e => ?_, fun a u e => ?_⟩, fun a u h1 h2 h3 => ?_, fun _ h => upd_none h, fun c ob u e => by
    have ne : c ≠ p := fun q => by
      subst q
      rw [e1] at e
      exact ro0.nofrz hm ob u (Option.some.inj e)
    rw [upd_ne ne]
    exact e⟩
  · have ne : b ≠ p := fun q => by subst q; rw [b0] at e; cases e
    rw [upd_ne ne]; exact r.sub _ _ e
  · by_cases q : a = p
    · subst q
      rw [put_same] at e; cases e
      exact ⟨b0, h, upd_same, ro⟩
    · rw [put_ne q] at e
      obtain ⟨h1, h, h2, h3⟩ := r.rel a u e
      exact ⟨h1, h, by rw [upd_ne q]; exact h2, h3⟩
  · have ne : a ≠ p := fun q => by subst q; rw [e0] at h2; cases h2
    exact ⟨by rw [upd_ne ne]; exact h1, by rw [put_ne ne]; exact h2, h3⟩
/-- less is known -/
theorem Step.less (r : Rel K B M H) {M' : DM} (s : ∀ a o, M' a = some o → M a = some o) : Step K B M H B M' H := by
  refine ⟨Same.refl B, ⟨r.sub, fun a o e => r.rel a o (s a o e)⟩, fun a o h1 h2 h3 => ⟨h1, ?_, h3⟩, fun _ h => h, fun _ _ _ h => h⟩
  cases q : M' a with
  | none => rfl
  | some u =>
    rw [s a u q] at h2
    cases h2
theorem Step.drop (r : Rel K B M H) (p : Addr) : Step K B M H B (del M p) H := Step.less r fun a o e => by
  by_cases q : a = p
  · subst q; rw [del_same] at e; cases e
  · rw [del_ne q] at e; exact e
/-- a thing of one's own, made since, that nobody knows of, changes -/
theorem Step.poke (s : Step K B M H B1 M1 H1) {p : Addr} (hp : H p = none) (hM : M1 p = none) (hB : B1 p = none) (o : HO) : Step K B M H B1 M1 (upd H1 p o) := by
  refine ⟨s.same, ⟨fun b u e => ?_, fun a u e => ?_⟩, fun a u h1 h2 h3 => ?_, fun a h => s.grow a (upd_none h), fun c ob u e => by rw [upd_ne (ne_of_none e hp)]; exact s.frz c ob u e⟩
  · have ne : b ≠ p := fun q => by subst q; rw [hB] at e; cases e
    rw [upd_ne ne]; exact s.to.sub _ _ e
  · have ne : a ≠ p := fun q => by subst q; rw [hM] at e; cases e
    obtain ⟨x, h, y, z⟩ := s.to.rel a u e
    exact ⟨x, h, by rw [upd_ne ne]; exact y, z⟩
  · obtain ⟨x, y, z⟩ := s.frame a u h1 h2 h3
    exact ⟨by rw [upd_ne (ne_of_none h1 hp)]; exact x, y, z⟩
/-- a list of data is frozen -/
theorem Step.freeze (r : Rel K B M H) {p : Addr} {xs : List PyData} (e : M p = some (.lst (xs.map DV.d))) :
    ∃ B', Step K B M H B' (del M p) H ∧ RV K B' (.ref p) (.d (.list xs)) := by
  obtain ⟨b0, h, h1, ro⟩ := r.rel p _ e
  obtain ⟨vs, rfl, rv⟩ := ro.lst
  have s : Same B (upd B p (.lst vs)) := same_new b0
  refine ⟨upd B p (.lst vs), ⟨s, ⟨fun b u e => ?_, fun a u e => ?_⟩, fun a u h1 h2 h3 => ?_, fun _ h => h, fun _ _ _ h => h⟩,   .d (.lst upd_same (dp_monoL s _ _ rv.toDp))⟩
  · by_cases q : b = p
    · subst q; rw [upd_same] at e; cases e; exact h1
    · rw [upd_ne q] at e; exact r.sub _ _ e
  · by_cases q : a = p
    · subst q; rw [del_same] at e; cases e
    · rw [del_ne q] at e
      obtain ⟨h1, h, h2, h3⟩ := r.rel a u e
      exact ⟨by rw [upd_ne q]; exact h1, h, h2, h3.mono s⟩
  · have ne : a ≠ p := fun q => by subst q; rw [e] at h2; cases h2
    exact ⟨h1, by rw [del_ne ne]; exact h2, by rw [upd_ne ne]; exact h3⟩
end

/-! ### slots -/
abbrev DSt := List (Option DV)
structure RE (K : Kw) (B : Hp) (σ : L2.St) (ρ : DSt) : Prop where
  len : ρ.length = σ.length
  get : ∀ (i : Nat) d, ρ[i]? = some (some d) → ∃ v, σ[i]? = some (some v) ∧ RV K B v d
section
variable {K : Kw} {B B' : Hp} {σ σ' : L2.St} {ρ ρ' : DSt}
theorem RE.mono (r : RE K B σ ρ) (s : Same B B') : RE K B' σ ρ := ⟨r.len, fun i d e => let ⟨v, h1, h2⟩ := r.get i d e; ⟨v, h1, h2.mono s⟩⟩
theorem RE.set (r : RE K B σ ρ) {v : V} {d : DV} (rv : RV K B v d) (i : Nat) : RE K B (σ.set i (some v)) (ρ.set i (some d)) := by
  refine ⟨by simp [r.len], fun j x e => ?_⟩
  by_cases h : i = j
  · subst h
    have hl : i < ρ.length := by
      have := (List.getElem?_eq_some_iff.mp e).1
      simpa using this
    rw [List.getElem?_set_self hl] at e
    cases e
    exact ⟨v, by rw [List.getElem?_set_self (by rw [← r.len]; exact hl)], rv⟩
  · rw [List.getElem?_set_ne h] at e ⊢
    exact r.get j x e
def dwipe (ρ : DSt) : List Nat → DSt
  | [] => ρ
  | v :: vs => (dwipe ρ vs).set v none
theorem RE.setN (r : RE K B σ ρ) (i : Nat) : RE K B (σ.set i none) (ρ.set i none) := by
  refine ⟨by simp [r.len], fun j x e => ?_⟩
  by_cases h : i = j
  · subst h
    have hl : i < ρ.length := by
      have := (List.getElem?_eq_some_iff.mp e).1
      simpa using this
    rw [List.getElem?_set_self hl] at e
    cases e
  · rw [List.getElem?_set_ne h] at e ⊢
    exact r.get j x e
theorem RE.wipe (r : RE K B σ ρ) : ∀ vs : List Nat, RE K B (L2.wipe σ vs) (dwipe ρ vs)
  | [] => r
  | v :: vs => (RE.wipe r vs).setN v
end
/-- only the slots in is differ -/
structure Agree (is : List Nat) (σ σ' : L2.St) : Prop where
  len : σ'.length = σ.length
  out : ∀ j, j ∉ is → σ'[j]? = σ[j]?
theorem Agree.refl (is : List Nat) (σ : L2.St) : Agree is σ σ := ⟨rfl, fun _ _ => rfl⟩
theorem Agree.set (σ : L2.St) (i : Nat) (v : Option V) : Agree [i] σ (σ.set i v) := ⟨by simp, fun j h => by
  rw [List.getElem?_set_ne]
  intro e; exact h (by simp [e])⟩
theorem Agree.trans {is js : List Nat} {σ σ1 σ2 : L2.St} (a : Agree is σ σ1) (b : Agree js σ1 σ2) : Agree (is ++ js) σ σ2 :=
  ⟨b.len.trans a.len, fun j h => by
    rw [b.out j (fun z => h (List.mem_append_right _ z)), a.out j (fun z => h (List.mem_append_left _ z))]⟩
theorem wipe_get (σ : L2.St) : ∀ (vs : List Nat) (j : Nat), (L2.wipe σ vs)[j]? = if j ∈ vs then (if j < σ.length then some none else none) else σ[j]?
  | [], j => by simp [L2.wipe]
  | v :: vs, j => by
    show ((L2.wipe σ vs).set v none)[j]? = _
    by_cases h : v = j
    · subst h
      simp only [List.mem_cons, true_or, if_true]
      rw [List.getElem?_set]
      simp [wipe_length]
    · rw [List.getElem?_set_ne h, wipe_get σ vs j]
      have : (j ∈ v :: vs) ↔ j ∈ vs := by simp [Ne.symm h]
      simp only [this]
theorem Agree.wipe {is vs : List Nat} {σ σ' : L2.St} (a : Agree is σ σ') (hs : ∀ i ∈ is, i ∈ vs) : L2.wipe σ' vs = L2.wipe σ vs := by
  apply List.ext_getElem?
  intro j
  rw [wipe_get, wipe_get, a.len]
  by_cases h : j ∈ vs
  · simp [h]
  · simp only [h, if_false]
    exact a.out j fun z => h (hs j z)
end DL

set_option Elab.async false
set_option linter.all false
set_option maxRecDepth 100000
set_option maxHeartbeats 4000000
namespace DL
open PySem L2

/-! ### judgements -/
abbrev DK := DV → DM → Prop
abbrev TDE := DSt → DM → DK → Prop
abbrev TDT := DSt → DM → (Bool → DM → Prop) → Prop
abbrev TDA := DSt → DM → (List DV → DM → Prop) → Prop
structure DEnds where
  nx : DSt → DM → Prop
  rt : DK
  bk : DSt → DM → Prop := fun _ _ => False
  ct : DSt → DM → Prop := fun _ _ => False
abbrev TDS := DEnds → DSt → DM → Prop

def KV1 (K : Kw) (B : Hp) (M : DM) (H : Hp) (Q0 : DK) (Q : VK) : Prop := ∀ d M' v B' H', Q0 d M' → Step K B M H B' M' H' → RV K B' v d → Q v H'
def upE (K : Kw) (t : TDE) : TE := fun σ H Q => ∃ B M ρ Q0, Rel K B M H ∧ RE K B σ ρ ∧ t ρ M Q0 ∧ KV1 K B M H Q0 Q
def upT (K : Kw) (t : TDT) : TT := fun σ H Q => ∃ B M ρ Q0, Rel K B M H ∧ RE K B σ ρ ∧ t ρ M Q0 ∧ ∀ b M' B' H', Q0 b M' → Step K B M H B' M' H' → Q b H'
def upA (K : Kw) (t : TDA) : TA := fun σ H Q => ∃ B M ρ Q0, Rel K B M H ∧ RE K B σ ρ ∧ t ρ M Q0 ∧ ∀ ds M' vs B' H', Q0 ds M' → Step K B M H B' M' H' → RVs K B' vs ds → Q vs H'
structure Cov (K : Kw) (B : Hp) (M : DM) (H : Hp) (E0 : DEnds) (D : Ends) : Prop where
  nx : ∀ ρ' M' σ' B' H', E0.nx ρ' M' → Step K B M H B' M' H' → RE K B' σ' ρ' → D.nx σ' H'
  rt : KV1 K B M H E0.rt D.rt
  bk : ∀ ρ' M' σ' B' H', E0.bk ρ' M' → Step K B M H B' M' H' → RE K B' σ' ρ' → D.bk σ' H'
  ct : ∀ ρ' M' σ' B' H', E0.ct ρ' M' → Step K B M H B' M' H' → RE K B' σ' ρ' → D.ct σ' H'
def upS (K : Kw) (t : TDS) : TS := fun D σ H => ∃ B M ρ E0, Rel K B M H ∧ RE K B σ ρ ∧ t E0 ρ M ∧ Cov K B M H E0 D
section
variable {K : Kw} {B B1 : Hp} {M M1 : DM} {H H1 : Hp} {E0 : DEnds} {D : Ends}
theorem KV1.step {Q0 : DK} {Q : VK} (k : KV1 K B M H Q0 Q) (s : Step K B M H B1 M1 H1) : KV1 K B1 M1 H1 Q0 Q := fun d M' v B' H' q st r => k d M' v B' H' q (s.trans st) r
theorem Cov.step (c : Cov K B M H E0 D) (s : Step K B M H B1 M1 H1) : Cov K B1 M1 H1 E0 D :=
  ⟨fun ρ' M' σ' B' H' q st r => c.nx ρ' M' σ' B' H' q (s.trans st) r, c.rt.step s, fun ρ' M' σ' B' H' q st r => c.bk ρ' M' σ' B' H' q (s.trans st) r, fun ρ' M' σ' B' H' q st r => c.ct ρ' M' σ' B' H' q (s.trans st) r⟩
end
abbrev DE (X : Cx) (e : Expr) (t : TDE) : Prop := PE X e (upE (kw X) t)
abbrev DT (X : Cx) (e : Expr) (t : TDT) : Prop := PT X e (upT (kw X) t)
abbrev DW (X : Cx) (e : Expr) (t : TDT) : Prop := PW X e (upT (kw X) t)
abbrev DA (X : Cx) (es : List Expr) (t : TDA) : Prop := PA X es (upA (kw X) t)
abbrev DS (X : Cx) (st : Stmt) (t : TDS) : Prop := PS X st (upS (kw X) t)
abbrev DSs (X : Cx) (sts : List Stmt) (t : TDS) : Prop := PSs X sts (upS (kw X) t)

theorem pe_imp {X : Cx} {e : Expr} {t t' : TE} (h : PE X e t) (i : ∀ σ H Q, t' σ H Q → t σ H Q) : PE X e t' := ⟨fun pins s σ H Q I w => h.run pins s σ H Q I (i σ H Q w)⟩
theorem pt_imp {X : Cx} {e : Expr} {t t' : TT} (h : PT X e t) (i : ∀ σ H Q, t' σ H Q → t σ H Q) : PT X e t' := ⟨fun pins s σ H Q I w => h.run pins s σ H Q I (i σ H Q w)⟩
theorem pw_imp {X : Cx} {e : Expr} {t t' : TT} (h : PW X e t) (i : ∀ σ H Q, t' σ H Q → t σ H Q) : PW X e t' := ⟨fun wh pins s σ H Q I w => h.run wh pins s σ H Q I (i σ H Q w)⟩
theorem pa_imp {X : Cx} {e : List Expr} {t t' : TA} (h : PA X e t) (i : ∀ σ H Q, t' σ H Q → t σ H Q) : PA X e t' := ⟨fun pos pins s σ H Q I w => h.run pos pins s σ H Q I (i σ H Q w)⟩
theorem ps_imp {X : Cx} {e : Stmt} {t t' : TS} (h : PS X e t) (i : ∀ D σ H, t' D σ H → t D σ H) : PS X e t' := ⟨fun pins s σ H D I w => h.run pins s σ H D I (i D σ H w)⟩
theorem pss_imp {X : Cx} {e : List Stmt} {t t' : TS} (h : PSs X e t) (i : ∀ D σ H, t' D σ H → t D σ H) : PSs X e t' := ⟨fun pins s σ H D I w => h.run pins s σ H D I (i D σ H w)⟩

/-! ### names, constants -/
def dVar (i : Nat) : TDE := fun ρ M Q => ∃ d, ρ[i]? = some (some d) ∧ Q d M
def dC (x : PyData) : TDE := fun _ M Q => Q (.d x) M
section
variable {X : Cx}
theorem dv (i : Nat) {x : Str} {pos : Pos} (hN : X.N[i]? = some x := by rfl) (hv : Vis X.env.scope x := by first | exact Or.inl rfl | exact Or.inr (Or.inl rfl) | exact Or.inr (Or.inr rfl)) (hd : (x == ("__debug__" : Str)) = false := by decide)
    (hcd : (x == ("__classdict__" : Str)) = false := by decide) : DE X (.Name x pos) (dVar i) := pe_imp (pv i hN hv hd hcd) fun σ H Q ⟨B, M, ρ, Q0, rel, re, ⟨d, e, h⟩, k⟩ => by
  obtain ⟨v, e1, r⟩ := re.get i d e
  exact ⟨v, e1, k d M v B H h (.refl rel) r⟩
theorem de_c {e : Expr} {v : V} {x : PyData} (h : PE X e (tC v)) (hd : ∀ B, DD (kw X) B v x) : DE X e (dC x) := pe_imp h fun σ H Q ⟨B, M, ρ, Q0, rel, re, q, k⟩ => k _ M v B H q (.refl rel) (.d (hd B))
theorem de_int {i j pos} : DE X (.Constant (.int i) j pos) (dC (.int i)) := de_c pe_int fun _ => .int i
theorem de_bl {i j pos} : DE X (.Constant (.bool i) j pos) (dC (.bool i)) := de_c pe_bl fun _ => .bl i
theorem de_non {j pos} : DE X (.Constant .none j pos) (dC .none) := de_c pe_non fun _ => .non
theorem de_str {x j pos} : DE X (.Constant (.str x) j pos) (dC (.str x)) := de_c pe_str fun _ => .str x
theorem de_glob {x : Str} {v : V} {u : Value} {d : PyData} {pos : Pos} (hg : Gl X x) (hm : X.mg x = some u) (r : RelV v u) (hd : ∀ B, DD (kw X) B v d) (hdb : (x == ("__debug__" : Str)) = false := by decide) : DE X (.Name x pos) (dC d) := de_c (pe_glob hg hm r hdb) hd

/-! ### operators by values -/
abbrev RD2 := DV → DV → DM → DK → Prop
abbrev RD1 := DV → DM → DK → Prop
abbrev RDL := List DV → DM → DK → Prop
def upR2 (K : Kw) (r : RD2) : R2 := fun x y H Q => ∃ B M d e Q0, Rel K B M H ∧ RV K B x d ∧ RV K B y e ∧ r d e M Q0 ∧ KV1 K B M H Q0 Q
def upR1 (K : Kw) (r : RD1) : V → Hp → VK → Prop := fun x H Q => ∃ B M d Q0, Rel K B M H ∧ RV K B x d ∧ r d M Q0 ∧ KV1 K B M H Q0 Q
def upRL (K : Kw) (r : RDL) : List V → Hp → VK → Prop := fun xs H Q => ∃ B M ds Q0, Rel K B M H ∧ RVs K B xs ds ∧ r ds M Q0 ∧ KV1 K B M H Q0 Q
def dOp (r : RD2) (ta tb : TDE) : TDE := fun ρ M Q => ta ρ M fun x M1 => tb ρ M1 fun y M2 => r x y M2 Q
def dUn (r : RD1) (ta : TDE) : TDE := fun ρ M Q => ta ρ M fun x M1 => r x M1 Q
variable {a b c : Expr} {ta tb tc : TDE} {pos : Pos}
theorem up_op {r : RD2} {σ : L2.St} {H : Hp} {Q : VK} (h : upE (kw X) (dOp r ta tb) σ H Q) : tOp (upR2 (kw X) r) (upE (kw X) ta) (upE (kw X) tb) σ H Q := by
  obtain ⟨B, M, ρ, Q0, rel, re, h, k⟩ := h
  refine ⟨B, M, ρ, _, rel, re, h, fun x M1 v B1 H1 q1 st1 r1 => ?_⟩
  refine ⟨B1, M1, ρ, _, st1.to, re.mono st1.same, q1, fun y M2 u B2 H2 q2 st2 r2 => ?_⟩
  exact ⟨B2, M2, x, y, Q0, st2.to, r1.mono st2.same, r2, q2, (k.step st1).step st2⟩
theorem up_un {r : RD1} {σ : L2.St} {H : Hp} {Q : VK} (h : upE (kw X) (dUn r ta) σ H Q) : tUn (upR1 (kw X) r) (upE (kw X) ta) σ H Q := by
  obtain ⟨B, M, ρ, Q0, rel, re, h, k⟩ := h
  refine ⟨B, M, ρ, _, rel, re, h, fun x M1 v B1 H1 q1 st1 r1 => ?_⟩
  exact ⟨B1, M1, x, Q0, st1.to, r1, q1, k.step st1⟩
theorem de_op {op : Operator} {r : RD2} (ho : OpR X (binaryOp op) (upR2 (kw X) r)) (ha : DE X a ta) (hb : DE X b tb) : DE X (.BinOp a op b pos) (dOp r ta tb) := pe_imp (pe_op ho ha hb) fun _ _ _ => up_op
theorem de_un {op : UnaryOp} {r : RD1} (ho : UnR X (unaryOp op) (upR1 (kw X) r)) (ha : DE X a ta) : DE X (.UnaryOp op a pos) (dUn r ta) := pe_imp (pe_un ho ha) fun _ _ _ => up_un
theorem de_cmp {op : CmpOp} {r : RD2} (ho : OpR X (compareOp op) (upR2 (kw X) r)) (ha : DE X a ta) (hb : DE X b tb) (hm : behindInMarks op b = false := by first | exact nomark _ | rfl) : DE X (.Compare a [op] [b] pos) (dOp r ta tb) := pe_imp (pe_cmpR ho ha hb hm) fun _ _ _ => up_op
/-- a value that is True or False, as a test -/
def dTest (t : TDE) : TDT := fun ρ M Q => t ρ M fun x M1 => ∃ k, x = .d (.bool k) ∧ Q k M1
theorem rv_bool {K : Kw} {B : Hp} {v : V} {k : Bool} (r : RV K B v (.d (.bool k))) : v = .bl k := by
  cases r with | d r => cases r; rfl
theorem rv_int {K : Kw} {B : Hp} {v : V} {k : Int} (r : RV K B v (.d (.int k))) : v = .int k := by
  cases r with | d r => cases r; rfl
theorem rv_str {K : Kw} {B : Hp} {v : V} {k : Str} (r : RV K B v (.d (.str k))) : v = .str k := by
  cases r with | d r => cases r; rfl
theorem rv_none {K : Kw} {B : Hp} {v : V} (r : RV K B v (.d .none)) : v = .non := by
  cases r with | d r => cases r; rfl
theorem rv_ref {K : Kw} {B : Hp} {v : V} {a : Addr} (r : RV K B v (.ref a)) : v = .ref a := by
  cases r; rfl
theorem up_test {t : TDE} {σ : L2.St} {H : Hp} {Q : Bool → Hp → Prop} (h : upT (kw X) (dTest t) σ H Q) : upE (kw X) t σ H fun x H' => ∃ k, x = .bl k ∧ Q k H' := by
  obtain ⟨B, M, ρ, Q0, rel, re, h, k⟩ := h
  refine ⟨B, M, ρ, _, rel, re, h, ?_⟩
  rintro d M1 v B1 H1 ⟨c, rfl, q⟩ st r
  exact ⟨c, rv_bool r, k c M1 B1 H1 q st⟩
theorem dt_cmp {op : CmpOp} {r : RD2} (ho : OpR X (compareOp op) (upR2 (kw X) r)) (ha : DE X a ta) (hb : DE X b tb) (hm : behindInMarks op b = false := by first | exact nomark _ | rfl) : DT X (.Compare a [op] [b] pos) (dTest (dOp r ta tb)) :=
  pt_imp (pt_cmpR ho ha hb hm) fun σ H Q h => by
    have h1 := up_test h
    exact up_op (X := X) h1
theorem dt_val {e : Expr} {t : TDE} (h : DE X e t) (he : ∀ whole, isTrue e X.env whole = (do let v ← whole; standAt e.pos; holding [v] (truthy v)) := by intro _; rfl) : DT X e (dTest t) :=
  pt_imp (pt_val h he) fun σ H Q h => up_test h
/-- a < b < c -/
def dChain (r r' : RD2) (ta tb tc : TDE) : TDE := fun ρ M Q => ta ρ M fun x M1 => tb ρ M1 fun y M2 => r x y M2 fun z M3 => ∃ k, z = .d (.bool k) ∧ (if k = true then tc ρ M3 fun w M4 => r' y w M4 Q else Q (.d (.bool false)) M3)
theorem up_chain {r r' : RD2} {σ : L2.St} {H : Hp} {Q : VK} (h : upE (kw X) (dChain r r' ta tb tc) σ H Q) : tChain (upR2 (kw X) r) (upR2 (kw X) r') (upE (kw X) ta) (upE (kw X) tb) (upE (kw X) tc) σ H Q := by
  obtain ⟨B, M, ρ, Q0, rel, re, h, k⟩ := h
  refine ⟨B, M, ρ, _, rel, re, h, fun x M1 v B1 H1 q1 st1 r1 => ?_⟩
  refine ⟨B1, M1, ρ, _, st1.to, re.mono st1.same, q1, fun y M2 u B2 H2 q2 st2 r2 => ?_⟩
  refine ⟨B2, M2, x, y, _, st2.to, r1.mono st2.same, r2, q2, ?_⟩
  rintro z M3 w B3 H3 ⟨c, rfl, q3⟩ st3 r3
  refine ⟨c, rv_bool r3, ?_⟩
  have st := (st1.trans st2).trans st3
  cases c with
  | true =>
    simp only [if_true] at q3 ⊢
    refine ⟨B3, M3, ρ, _, st3.to, re.mono st.same, q3, fun z4 M4 w4 B4 H4 q4 st4 r4 => ?_⟩
    exact ⟨B4, M4, y, z4, Q0, st4.to, r2.mono (st3.trans st4).same, r4, q4, k.step (st.trans st4)⟩
  | false =>
    simp only [Bool.false_eq_true, if_false] at q3 ⊢
    exact k _ M3 _ B3 H3 q3 st (.d (.bl false))
theorem de_chain {op op' : CmpOp} {r r' : RD2} (ho : OpR X (compareOp op) (upR2 (kw X) r)) (ho' : OpR X (compareOp op') (upR2 (kw X) r')) (ha : DE X a ta) (hb : DE X b tb) (hc : DE X c tc)
    (hm : lastMarks [op, op'] [b, c] = false := by with_unfolding_all rfl) : DE X (.Compare a [op, op'] [b, c] pos) (dChain r r' ta tb tc) :=
  pe_imp (pe_chain ho ho' ha hb hc hm) fun _ _ _ => up_chain
theorem dt_chain {op op' : CmpOp} {r r' : RD2} (ho : OpR X (compareOp op) (upR2 (kw X) r)) (ho' : OpR X (compareOp op') (upR2 (kw X) r')) (ha : DE X a ta) (hb : DE X b tb) (hc : DE X c tc)
    (hm : lastMarks [op, op'] [b, c] = false := by with_unfolding_all rfl) : DT X (.Compare a [op, op'] [b, c] pos) (dTest (dChain r r' ta tb tc)) :=
  pt_imp (pt_chain ho ho' ha hb hc hm) fun σ H Q h => by
    have h1 := up_test h
    exact up_chain (X := X) h1

/-! ### and, or, not, if else -/
variable {tA tB : TDT} {rest : List Expr}
def dAnd (t u : TDT) : TDT := fun ρ M Q => t ρ M fun c M1 => if c = true then u ρ M1 Q else Q false M1
def dOr (t u : TDT) : TDT := fun ρ M Q => t ρ M fun c M1 => if c = true then Q true M1 else u ρ M1 Q
def dNot (t : TDT) : TDT := fun ρ M Q => t ρ M fun c M1 => Q (!c) M1
theorem dw_and1 (ha : DT X a tA) : DW X (.BoolOp .And [a] pos) tA := pw_and1 ha
theorem dw_or1 (ha : DT X a tA) : DW X (.BoolOp .Or [a] pos) tA := pw_or1 ha
theorem dw_and (ha : DT X a tA) (hb : DW X (.BoolOp .And (b :: rest) pos) tB) : DW X (.BoolOp .And (a :: b :: rest) pos) (dAnd tA tB) :=
  pw_imp (pw_and ha hb) fun σ H Q ⟨B, M, ρ, Q0, rel, re, h, k⟩ => by
    refine ⟨B, M, ρ, _, rel, re, h, fun c M1 B1 H1 q1 st1 => ?_⟩
    cases c with
    | true =>
      simp only [if_true] at q1 ⊢
      exact ⟨B1, M1, ρ, Q0, st1.to, re.mono st1.same, q1, fun b M' B' H' q st => k b M' B' H' q (st1.trans st)⟩
    | false =>
      simp only [Bool.false_eq_true, if_false] at q1 ⊢
      exact k _ M1 B1 H1 q1 st1
theorem dw_or (ha : DT X a tA) (hb : DW X (.BoolOp .Or (b :: rest) pos) tB) : DW X (.BoolOp .Or (a :: b :: rest) pos) (dOr tA tB) :=
  pw_imp (pw_or ha hb) fun σ H Q ⟨B, M, ρ, Q0, rel, re, h, k⟩ => by
    refine ⟨B, M, ρ, _, rel, re, h, fun c M1 B1 H1 q1 st1 => ?_⟩
    cases c with
    | false =>
      simp only [Bool.false_eq_true, if_false] at q1 ⊢
      exact ⟨B1, M1, ρ, Q0, st1.to, re.mono st1.same, q1, fun b M' B' H' q st => k b M' B' H' q (st1.trans st)⟩
    | true =>
      simp only [if_true] at q1 ⊢
      exact k _ M1 B1 H1 q1 st1
theorem dt_not (ha : DT X a tA) : DT X (.UnaryOp .Not a pos) (dNot tA) := pt_imp (L2.pt_not ha) fun σ H Q ⟨B, M, ρ, Q0, rel, re, h, k⟩ => ⟨B, M, ρ, _, rel, re, h, fun c M1 B1 H1 q1 st1 => k _ M1 B1 H1 q1 st1⟩
/-- as values, of True and False (the last of any kind) -/
def dAndV (ta tb : TDE) : TDE := fun ρ M Q => ta ρ M fun x M1 => ∃ c, x = .d (.bool c) ∧ if c = true then tb ρ M1 Q else Q (.d (.bool false)) M1
def dOrV (ta tb : TDE) : TDE := fun ρ M Q => ta ρ M fun x M1 => ∃ c, x = .d (.bool c) ∧ if c = true then Q (.d (.bool true)) M1 else tb ρ M1 Q
def dNotV (ta : TDE) : TDE := fun ρ M Q => ta ρ M fun x M1 => ∃ c, x = .d (.bool c) ∧ Q (.d (.bool !c)) M1
theorem de_one {op} {t : TDE} (h : DE X a t) : DE X (.BoolOp op [a] pos) t := pe_one h
theorem de_and (ha : DE X a ta) (hb : DE X (.BoolOp .And (b :: rest) pos) tb) : DE X (.BoolOp .And (a :: b :: rest) pos) (dAndV ta tb) :=
  pe_imp (pe_and ha hb) fun σ H Q ⟨B, M, ρ, Q0, rel, re, h, k⟩ => by
    refine ⟨B, M, ρ, _, rel, re, h, ?_⟩
    rintro d M1 v B1 H1 ⟨c, rfl, q1⟩ st1 r1
    refine ⟨c, rv_bool r1, ?_⟩
    cases c with
    | true =>
      simp only [if_true] at q1 ⊢
      exact ⟨B1, M1, ρ, Q0, st1.to, re.mono st1.same, q1, k.step st1⟩
    | false =>
      simp only [Bool.false_eq_true, if_false] at q1 ⊢
      exact k _ M1 _ B1 H1 q1 st1 (.d (.bl false))
theorem de_or (ha : DE X a ta) (hb : DE X (.BoolOp .Or (b :: rest) pos) tb) : DE X (.BoolOp .Or (a :: b :: rest) pos) (dOrV ta tb) :=
  pe_imp (pe_or ha hb) fun σ H Q ⟨B, M, ρ, Q0, rel, re, h, k⟩ => by
    refine ⟨B, M, ρ, _, rel, re, h, ?_⟩
    rintro d M1 v B1 H1 ⟨c, rfl, q1⟩ st1 r1
    refine ⟨c, rv_bool r1, ?_⟩
    cases c with
    | false =>
      simp only [Bool.false_eq_true, if_false] at q1 ⊢
      exact ⟨B1, M1, ρ, Q0, st1.to, re.mono st1.same, q1, k.step st1⟩
    | true =>
      simp only [if_true] at q1 ⊢
      exact k _ M1 _ B1 H1 q1 st1 (.d (.bl true))
theorem de_not (ha : DE X a ta) : DE X (.UnaryOp .Not a pos) (dNotV ta) := pe_imp (pe_not ha) fun σ H Q ⟨B, M, ρ, Q0, rel, re, h, k⟩ => by
  refine ⟨B, M, ρ, _, rel, re, h, ?_⟩
  rintro d M1 v B1 H1 ⟨c, rfl, q1⟩ st1 r1
  exact ⟨c, rv_bool r1, k _ M1 _ B1 H1 q1 st1 (.d (.bl _))⟩
def dIf (t : TDT) (ta tb : TDE) : TDE := fun ρ M Q => t ρ M fun c M1 => if c = true then ta ρ M1 Q else tb ρ M1 Q
theorem de_if {c : Expr} (hc : DT X c tA) (ha : DE X a ta) (hb : DE X b tb) : DE X (.IfExp c a b pos) (dIf tA ta tb) := pe_imp (pe_ifExp hc ha hb) fun σ H Q ⟨B, M, ρ, Q0, rel, re, h, k⟩ => by
  refine ⟨B, M, ρ, _, rel, re, h, fun c M1 B1 H1 q1 st1 => ?_⟩
  cases c with
  | true =>
    simp only [if_true] at q1 ⊢
    exact ⟨B1, M1, ρ, Q0, st1.to, re.mono st1.same, q1, k.step st1⟩
  | false =>
    simp only [Bool.false_eq_true, if_false] at q1 ⊢
    exact ⟨B1, M1, ρ, Q0, st1.to, re.mono st1.same, q1, k.step st1⟩

/-! ### argument lists, displays -/
variable {e : Expr} {es : List Expr} {te : TDE} {t : TDA}
def dNil : TDA := fun _ M Q => Q [] M
def dCons (ta : TDE) (tr : TDA) : TDA := fun ρ M Q => ta ρ M fun x M1 => tr ρ M1 fun xs M2 => Q (x :: xs) M2
theorem da_nil : DA X [] dNil := pa_imp pa_nil fun σ H Q ⟨B, M, ρ, Q0, rel, re, h, k⟩ => k [] M [] B H h (.refl rel) .nil
theorem da_cons (ha : DE X e te) (hr : DA X es t) (hs : starEach (e :: es) X.env = (false, eval e X.env) :: starEach es X.env := by rfl) : DA X (e :: es) (dCons te t) := pa_imp (pa_cons ha hr hs) fun σ H Q ⟨B, M, ρ, Q0, rel, re, h, k⟩ => by
  refine ⟨B, M, ρ, _, rel, re, h, fun x M1 v B1 H1 q1 st1 r1 => ?_⟩
  refine ⟨B1, M1, ρ, _, st1.to, re.mono st1.same, q1, fun xs M2 vs B2 H2 q2 st2 r2 => ?_⟩
  exact k _ M2 _ B2 H2 q2 (st1.trans st2) (.cons (r1.mono st2.same) r2)
def dTup (t : TDA) : TDE := fun ρ M Q => t ρ M fun xs M1 => xs.length ≤ sizeLine ∧ Q (mkTup xs) M1
/-- a written list: a new one that may be changed -/
def dLst (t : TDA) : TDE := fun ρ M Q => t ρ M fun xs M1 => xs.length ≤ sizeLine ∧ ∀ p, M1 p = none → Q (.ref p) (put M1 p (.lst xs))
/-- a written list that nobody changes: its items are data -/
def dLstF (t : TDA) : TDE := fun ρ M Q => t ρ M fun xs M1 => xs.length ≤ sizeLine ∧ ∃ ds, dataL xs = some ds ∧ Q (.d (.list ds)) M1
theorem de_tup {x1} (h : DA X es t) : DE X (.Tuple es x1 pos) (dTup t) := pe_imp (pe_tup h) fun σ H Q ⟨B, M, ρ, Q0, rel, re, h, k⟩ => by
  refine ⟨B, M, ρ, _, rel, re, h, fun xs M1 vs B1 H1 ⟨z, q1⟩ st1 r1 => ⟨by rw [r1.length]; exact z, fun p hp => ?_⟩⟩
  have s2 := Step.newB st1.to hp (.tup vs)
  exact k _ M1 _ _ _ q1 (st1.trans s2) (RV.mkTup (.of upd_same) (r1.mono s2.same))
theorem de_lst (h : DA X es t) : DE X (.List es pos) (dLst t) := pe_imp (pe_lst h) fun σ H Q ⟨B, M, ρ, Q0, rel, re, h, k⟩ => by
  refine ⟨B, M, ρ, _, rel, re, h, fun xs M1 vs B1 H1 ⟨z, q1⟩ st1 r1 => ⟨by rw [r1.length]; exact z, fun p hp => ?_⟩⟩
  exact k _ _ _ _ _ (q1 p (st1.to.freshM hp)) (st1.trans (Step.newM st1.to hp (.l r1))) (.ref p)
theorem de_lstF (h : DA X es t) : DE X (.List es pos) (dLstF t) := pe_imp (pe_lst h) fun σ H Q ⟨B, M, ρ, Q0, rel, re, h, k⟩ => by
  refine ⟨B, M, ρ, _, rel, re, h, fun xs M1 vs B1 H1 ⟨z, ds, e, q1⟩ st1 r1 => ⟨by rw [r1.length]; exact z, fun p hp => ?_⟩⟩
  have s2 := Step.newB st1.to hp (.lst vs)
  have e' := dataL_eq e
  subst e'
  exact k _ M1 _ _ _ q1 (st1.trans s2) (.d (.lst upd_same (dp_monoL s2.same _ _ r1.toDp)))

/-! ### calls of built-ins by values -/
def dCB (r : RDL) (t : TDA) : TDE := fun ρ M Q => t ρ M fun ds M1 => r ds M1 Q
theorem up_cb {r : RDL} {σ : L2.St} {H : Hp} {Q : VK} (h : upE (kw X) (dCB r t) σ H Q) : tCB (upRL (kw X) r) (upA (kw X) t) σ H Q := by
  obtain ⟨B, M, ρ, Q0, rel, re, h, k⟩ := h
  refine ⟨B, M, ρ, _, rel, re, h, fun xs M1 vs B1 H1 q1 st1 r1 => ?_⟩
  exact ⟨B1, M1, xs, Q0, st1.to, r1, q1, k.step st1⟩
variable {x : Str} {p : Pos} {id T : String} {r : RDL}
theorem de_callB (hc : CallR X (.builtin id) (upRL (kw X) r)) (hg : Gl X x) (hm : X.mg x = none) (hv : bootBuiltins x = some (.builtin id)) (ha : DA X (e :: es) t) (hn : x ≠ "__name__" := by decide) (hdb : (x == ("__debug__" : Str)) = false := by decide)
    (he : starEach (e :: es) X.env = (false, eval e X.env) :: starEach es X.env := by rfl) (hpl : (backTo pos (starEach es X.env)).any (·.1) = false := by rfl) : DE X (.Call (.Name x p) (e :: es) [] pos) (dCB r t) :=
  pe_imp (pe_callB hc hg hm hv ha hn hdb he hpl) fun _ _ _ => up_cb
theorem de_callTy (hc : CallR X (.type T) (upRL (kw X) r)) (hg : Gl X x) (hm : X.mg x = none) (hv : bootBuiltins x = some (.type T)) (ha : DA X (e :: es) t) (hn : x ≠ "__name__" := by decide) (hdb : (x == ("__debug__" : Str)) = false := by decide)
    (he : starEach (e :: es) X.env = (false, eval e X.env) :: starEach es X.env := by rfl) (hpl : (backTo pos (starEach es X.env)).any (·.1) = false := by rfl) : DE X (.Call (.Name x p) (e :: es) [] pos) (dCB r t) :=
  pe_imp (pe_callTy hc hg hm hv ha hn hdb he hpl) fun _ _ _ => up_cb
/-! ### subscripts -/
theorem de_ix {r : RD2} (hr : IxR X (upR2 (kw X) r)) (ha : DE X a ta) (hb : DE X b tb) (hs : PlainIx b := by exact fun _ _ => rfl) : DE X (.Subscript a b pos) (dOp r ta tb) := pe_imp (pe_ix hr ha hb hs) fun _ _ _ => up_op
abbrev TDO := DSt → DM → (Option Int → DM → Prop) → Prop
def upO (K : Kw) (t : TDO) : TO := fun σ H Q => ∃ B M ρ Q0, Rel K B M H ∧ RE K B σ ρ ∧ t ρ M Q0 ∧ ∀ o M' B' H', Q0 o M' → Step K B M H B' M' H' → Q o H'
abbrev DO' (X : Cx) (e : Option Expr) (t : TDO) : Prop := PO X e (upO (kw X) t)
def dNoPart : TDO := fun _ M Q => Q none M
def dPart (t : TDE) : TDO := fun ρ M Q => t ρ M fun x M1 => ∃ i, x = .d (.int i) ∧ Q (some i) M1
theorem po_imp {e : Option Expr} {t t' : TO} (h : PO X e t) (i : ∀ σ H Q, t' σ H Q → t σ H Q) : PO X e t' := ⟨fun pins s σ H Q I w => h.run pins s σ H Q I (i σ H Q w)⟩
theorem do_none : DO' X none dNoPart := po_imp po_none fun σ H Q ⟨B, M, ρ, Q0, rel, re, h, k⟩ => k _ M B H h (.refl rel)
theorem do_some (h : DE X e te) : DO' X (some e) (dPart te) := po_imp (po_some h) fun σ H Q ⟨B, M, ρ, Q0, rel, re, h, k⟩ => by
  refine ⟨B, M, ρ, _, rel, re, h, ?_⟩
  rintro d M1 v B1 H1 ⟨i, rfl, q1⟩ st1 r1
  exact ⟨i, rv_int r1, k _ M1 B1 H1 q1 st1⟩
abbrev RDS := DV → Option Int → Option Int → DM → DK → Prop
def upRS (K : Kw) (r : RDS) : V → Option Int → Option Int → Hp → VK → Prop := fun x lo hi H Q => ∃ B M d Q0, Rel K B M H ∧ RV K B x d ∧ r d lo hi M Q0 ∧ KV1 K B M H Q0 Q
def dSl (r : RDS) (te : TDE) (tl th : TDO) : TDE := fun ρ M Q => te ρ M fun x M1 => tl ρ M1 fun l M2 => th ρ M2 fun u M3 => r x l u M3 Q
variable {lo hi : Option Expr} {tl th : TDO} {p2 : Pos}
theorem de_slice {r : RDS} (hr : SlR X (upRS (kw X) r)) (he : DE X e te) (hl : DO' X lo tl) (hu : DO' X hi th) : DE X (.Subscript e (.Slice lo hi none p2) pos) (dSl r te tl th) := pe_imp (pe_slice hr he hl hu) fun σ H Q ⟨B, M, ρ, Q0, rel, re, h, k⟩ => by
  refine ⟨B, M, ρ, _, rel, re, h, fun x M1 v B1 H1 q1 st1 r1 => ?_⟩
  refine ⟨B1, M1, ρ, _, st1.to, re.mono st1.same, q1, fun l M2 B2 H2 q2 st2 => ?_⟩
  refine ⟨B2, M2, ρ, _, st2.to, re.mono (st1.trans st2).same, q2, fun u M3 B3 H3 q3 st3 => ?_⟩
  exact ⟨B3, M3, x, Q0, st3.to, r1.mono (st2.trans st3).same, q3, k.step ((st1.trans st2).trans st3)⟩
/-! ### methods of built-in types, by values -/
abbrev RDM := DV → List DV → DM → DK → Prop
def upRM (K : Kw) (r : RDM) : V → List V → Hp → VK → Prop := fun x xs H Q => ∃ B M d ds Q0, Rel K B M H ∧ RV K B x d ∧ RVs K B xs ds ∧ r d ds M Q0 ∧ KV1 K B M H Q0 Q
def dBM (ty : DV → DM → Prop) (r : RDM) (to : TDE) (t : TDA) : TDE := fun ρ M Q => to ρ M fun x M1 => ty x M1 ∧ t ρ M1 fun xs M2 => r x xs M2 Q
variable {o : Expr} {to : TDE} {name : Str} {apos cpos : Pos} {rm : RDM}
/-- what has a type's methods -/
def isLst (x : DV) (M : DM) : Prop := (∃ a, x = .ref a ∧ ∃ xs, M a = some (.lst xs)) ∨ ∃ xs, x = .d (.list xs)
def isDct (x : DV) (M : DM) : Prop := ∃ a, x = .ref a ∧ ∃ xs, M a = some (.dK xs)
theorem isLst.ty {K : Kw} {B : Hp} {M : DM} {H : Hp} {x : DV} {v : V} (rel : Rel K B M H) (r : RV K B v x) (h : isLst x M) : tyV K.K "list" v H := by
  rcases h with ⟨a, rfl, xs, e⟩ | ⟨xs, rfl⟩
  · cases r
    obtain ⟨h, e1, ro⟩ := rel.get e
    obtain ⟨vs, rfl, _⟩ := ro.lst
    exact .inl ⟨rfl, vs, .of e1⟩
  · cases r with
    | d r =>
      cases r with
      | lst h1 h2 => exact .inl ⟨rfl, _, .of (rel.sub _ _ h1)⟩
theorem isDct.ty {K : Kw} {B : Hp} {M : DM} {H : Hp} {x : DV} {v : V} (rel : Rel K B M H) (r : RV K B v x) (h : isDct x M) : tyV K.K "dict" v H := by
  obtain ⟨a, rfl, xs, e⟩ := h
  cases r
  obtain ⟨h, e1, ro⟩ := rel.get e
  obtain ⟨vs, rfl, _⟩ := ro.dK
  exact .inr (.inr (.inl ⟨rfl, .inl ⟨_, e1⟩⟩))
theorem de_bm {ty : DV → DM → Prop} (hty' : ∀ {B M H x v}, Rel (kw X) B M H → RV (kw X) B v x → ty x M → tyV X.K T v H) (pa : PlainAttrs T) (slot : Slot T name id) (hty : typeOf (.builtin id) = pure (.type "method_descriptor")) (hm : MtR X id (upRM (kw X) rm)) (ho : DE X o to) (ha : DA X (e :: es) t)
    (hbase : attributeBase o name X.env (eval o X.env) = eval o X.env := by rfl)
    (hfew : ((backTo cpos (starEach (e :: es) X.env)).all (fun x => !x.1) && (backToKw cpos (keywordEach [] X.env)).all (fun x => x.1.isSome)
      && decide ((e :: es).length + ([] : List Keyword).length + (if ([] : List Keyword).isEmpty then 0 else 1) < 30)) = true := by rfl)
    (hline : (apos.endLine == cpos.line) = true := by rfl) (hs : starEach (e :: es) X.env = (false, eval e X.env) :: starEach es X.env := by rfl) (hplain : (backTo cpos (starEach es X.env)).any (·.1) = false := by rfl) :
    DE X (.Call (.Attribute o name apos) (e :: es) [] cpos) (dBM ty rm to t) := pe_imp (pe_bm pa slot hty hm ho ha hbase hfew hline hs hplain) fun σ H Q ⟨B, M, ρ, Q0, rel, re, h, k⟩ => by
  refine ⟨B, M, ρ, _, rel, re, h, fun x M1 v B1 H1 ⟨y1, q1⟩ st1 r1 => ⟨hty' st1.to r1 y1, ?_⟩⟩
  refine ⟨B1, M1, ρ, _, st1.to, re.mono st1.same, q1, fun xs M2 vs B2 H2 q2 st2 r2 => ?_⟩
  exact ⟨B2, M2, x, xs, Q0, st2.to, r1.mono st2.same, r2, q2, (k.step st1).step st2⟩
def dBM0 (ty : DV → DM → Prop) (r : RDM) (to : TDE) : TDE := fun ρ M Q => to ρ M fun x M1 => ty x M1 ∧ r x [] M1 Q
theorem de_bm0 {ty : DV → DM → Prop} (hty' : ∀ {B M H x v}, Rel (kw X) B M H → RV (kw X) B v x → ty x M → tyV X.K T v H) (pa : PlainAttrs T) (slot : Slot T name id) (hty : typeOf (.builtin id) = pure (.type "method_descriptor")) (hm : MtR X id (upRM (kw X) rm)) (ho : DE X o to)
    (hbase : attributeBase o name X.env (eval o X.env) = eval o X.env := by rfl) (hline : (apos.endLine == cpos.line) = true := by rfl) : DE X (.Call (.Attribute o name apos) [] [] cpos) (dBM0 ty rm to) := pe_imp (pe_bm0 pa slot hty hm ho hbase hline) fun σ H Q ⟨B, M, ρ, Q0, rel, re, h, k⟩ => by
  refine ⟨B, M, ρ, _, rel, re, h, fun x M1 v B1 H1 ⟨y1, q1⟩ st1 r1 => ⟨hty' st1.to r1 y1, ?_⟩⟩
  exact ⟨B1, M1, x, [], Q0, st1.to, r1, .nil, q1, k.step st1⟩
end
end DL

set_option Elab.async false
set_option linter.all false
set_option maxRecDepth 100000
set_option maxHeartbeats 4000000
namespace DL
open PySem L2

/-! ### sequences -/
/-- the items of a list -/
def listOf (M : DM) : DV → Option (List DV)
  | .d (.list xs) => some (xs.map DV.d)
  | .ref a => match M a with
    | some (.lst xs) => some xs
    | some (.ro xs) => some xs
    | _ => none
  | _ => none
def seqOf (M : DM) (x : DV) : Option (List DV) := match listOf M x with
  | some xs => some xs
  | none => tupOf x
theorem rv_list {K : Kw} {B : Hp} {M : DM} {H : Hp} {v : V} {d : DV} {ds : List DV} (rel : Rel K B M H) (r : RV K B v d) (e : listOf M d = some ds) : ∃ a vs, v = .ref a ∧ SqL K.K H a vs ∧ RVs K B vs ds := by
  cases d with
  | d x =>
    cases x <;> try (cases e)
    cases r with
    | d r =>
      cases r with
      | lst h1 h2 => exact ⟨_, _, rfl, .of (rel.sub _ _ h1), RVs.ofDp h2⟩
  | ref a =>
    cases r
    simp only [listOf] at e
    cases q : M a with
    | none => rw [q] at e; cases e
    | some o =>
      rw [q] at e
      obtain ⟨h, e1, ro⟩ := rel.get q
      cases o <;> try (cases e)
      · obtain ⟨vs, rfl, r⟩ := ro.lst
        exact ⟨_, vs, rfl, .of e1, r⟩
      · obtain ⟨ob, vs, rfl, r⟩ := ro.ro
        exact ⟨_, vs, rfl, .inl (.inr ⟨ob, e1⟩), r⟩
  | tp xs => cases e
theorem rv_tup {K : Kw} {B : Hp} {M : DM} {H : Hp} {v : V} {d : DV} {ds : List DV} (rel : Rel K B M H) (r : RV K B v d) (e : tupOf d = some ds) : ∃ a vs, v = .ref a ∧ SqT K.K H a vs ∧ RVs K B vs ds := by
  obtain ⟨a, vs, e1, h1, h2⟩ := r.tup e
  exact ⟨a, vs, e1, same_seqT rel.sub h1, h2⟩
theorem rv_seq {K : Kw} {B : Hp} {M : DM} {H : Hp} {v : V} {d : DV} {ds : List DV} (rel : Rel K B M H) (r : RV K B v d) (e : seqOf M d = some ds) : ∃ a vs, v = .ref a ∧ (SqL K.K H a vs ∨ SqT K.K H a vs) ∧ RVs K B vs ds := by
  unfold seqOf at e
  cases q : listOf M d with
  | some xs =>
    rw [q] at e; cases e
    obtain ⟨a, vs, h1, h2, h3⟩ := rv_list rel r q
    exact ⟨a, vs, h1, .inl h2, h3⟩
  | none =>
    rw [q] at e
    obtain ⟨a, vs, h1, h2, h3⟩ := rv_tup rel r e
    exact ⟨a, vs, h1, .inr h2, h3⟩
/-- a list that stands alone (tracked as it is) -/
theorem rv_lst {K : Kw} {B : Hp} {M : DM} {H : Hp} {v : V} {d : DV} {ds : List DV} (rel : Rel K B M H) (r : RV K B v d) (e : (∃ a, d = .ref a ∧ M a = some (.lst ds)) ∨ ∃ xs, d = .d (.list xs) ∧ ds = xs.map DV.d) : ∃ a vs, v = .ref a ∧ H a = some (.lst vs) ∧ RVs K B vs ds := by
  rcases e with ⟨a, rfl, e⟩ | ⟨xs, rfl, rfl⟩
  · cases r
    obtain ⟨h, e1, ro⟩ := rel.get e
    obtain ⟨vs, rfl, r⟩ := ro.lst
    exact ⟨_, vs, rfl, e1, r⟩
  · cases r with
    | d r =>
      cases r with
      | lst h1 h2 => exact ⟨_, _, rfl, rel.sub _ _ h1, RVs.ofDp h2⟩
/-- the items of a list that is not the script -/
def lstOf (M : DM) : DV → Option (List DV)
  | .d (.list xs) => some (xs.map DV.d)
  | .ref a => match M a with
    | some (.lst xs) => some xs
    | _ => none
  | _ => none
theorem lstOf_or {M : DM} {d : DV} {ds : List DV} (e : lstOf M d = some ds) : (∃ a, d = .ref a ∧ M a = some (.lst ds)) ∨ ∃ xs, d = .d (.list xs) ∧ ds = xs.map DV.d := by
  cases d with
  | d x =>
    cases x <;> try (cases e)
    exact .inr ⟨_, rfl, rfl⟩
  | ref a =>
    simp only [lstOf] at e
    cases q : M a with
    | none => rw [q] at e; cases e
    | some o =>
      rw [q] at e
      cases o <;> try (cases e)
      exact .inl ⟨a, rfl, q⟩
  | tp xs => cases e
theorem rv_one {K : Kw} {B : Hp} {xs : List V} {d : DV} (r : RVs K B xs [d]) : ∃ v, xs = [v] ∧ RV K B v d := by
  cases r with
  | cons r t => cases t; exact ⟨_, rfl, r⟩
theorem rv_two {K : Kw} {B : Hp} {xs : List V} {d e : DV} (r : RVs K B xs [d, e]) : ∃ v u, xs = [v, u] ∧ RV K B v d ∧ RV K B u e := by
  cases r with
  | cons r t =>
    obtain ⟨u, rfl, q⟩ := rv_one t
    exact ⟨_, _, rfl, r, q⟩

section
variable {X : Cx}
/-! ### + - * // % -/
def rAddD : RD2 := fun x y M Q => match x, y with
  | .d (.int i), .d (.int j) => Q (.d (.int (i + j))) M
  | .d (.str i), .d (.str j) => i.length + j.length ≤ sizeLine ∧ Q (.d (.str (i ++ j))) M
  | x, y => (∃ xs ys, tupOf x = some xs ∧ tupOf y = some ys ∧ xs.length + ys.length ≤ sizeLine ∧ Q (mkTup (xs ++ ys)) M) ∨
      ∃ xs ys, lstOf M x = some xs ∧ lstOf M y = some ys ∧ xs.length + ys.length ≤ sizeLine ∧ ∀ p, M p = none → Q (.ref p) (put M p (.lst (xs ++ ys)))
theorem opd_add : OpR X (binaryOp .Add) (upR2 (kw X) rAddD) := by
  intro pins s σ H x y v u Q I rx ry h
  obtain ⟨B, M, d, e, Q0, rel, r1, r2, h, k⟩ := h
  unfold rAddD at h
  split at h
  · obtain rfl := rv_int r1
    obtain rfl := rv_int r2
    exact op_add pins s σ H _ _ v u Q I rx ry ⟨_, _, rfl, rfl, k _ M _ B H h (.refl rel) (.d (.int _))⟩
  · obtain rfl := rv_str r1
    obtain rfl := rv_str r2
    exact op_add_str pins s σ H _ _ v u Q I rx ry ⟨_, _, rfl, rfl, h.1, k _ M _ B H h.2 (.refl rel) (.d (.str _))⟩
  · rcases h with ⟨xs, ys, e1, e2, hz, q⟩ | ⟨xs, ys, e1, e2, hz, q⟩
    · obtain ⟨a, vs, rfl, s1, w1⟩ := rv_tup rel r1 e1
      obtain ⟨b, us, rfl, s2, w2⟩ := rv_tup rel r2 e2
      obtain ⟨a', vs', e1', s1', w1'⟩ := r1.tup e1
      cases e1'
      obtain ⟨b', us', e2', s2', w2'⟩ := r2.tup e2
      cases e2'
      have : vs = vs' := I.tuple_inj s1 (same_seqT rel.sub s1')
      subst this
      have : us = us' := I.tuple_inj s2 (same_seqT rel.sub s2')
      subst this
      refine op_catA pins s σ H _ _ v u Q I rx ry ⟨a, b, vs, us, rfl, rfl, s1, s2, by rw [w1.length, w2.length]; exact hz, fun e => ?_, fun _ e => ?_, fun _ _ p hp => ?_⟩
      · subst e
        have : xs = [] := by cases w1; rfl
        subst this
        exact k _ M _ B H q (.refl rel) (RV.mkTup s2' w2)
      · subst e
        have : ys = [] := by cases w2; rfl
        subst this
        rw [List.append_nil] at q
        exact k _ M _ B H q (.refl rel) (RV.mkTup s1' w1)
      · have st := Step.newB rel hp (.tup (vs ++ us))
        exact k _ M _ _ _ q st (RV.mkTup (.of upd_same) ((w1.append w2).mono st.same))
    · obtain ⟨a, vs, rfl, s1, w1⟩ := rv_lst rel r1 (lstOf_or e1)
      obtain ⟨b, us, rfl, s2, w2⟩ := rv_lst rel r2 (lstOf_or e2)
      refine op_cat pins s σ H _ _ v u Q I rx ry ⟨a, b, vs, us, rfl, rfl, s1, s2, by rw [w1.length, w2.length]; exact hz, fun p hp => ?_⟩
      exact k _ _ _ _ _ (q p (rel.freshM hp)) (Step.newM rel hp (.l (w1.append w2))) (.ref p)
def rIntD (C : Int → Int → Prop) (g : Int → Int → PyData) : RD2 := fun x y M Q => ∃ i j, x = .d (.int i) ∧ y = .d (.int j) ∧ C i j ∧ Q (.d (g i j)) M
theorem opd_int {f : Value → Value → Sem Value} {C : Int → Int → Prop} {g : Int → Int → V} {g' : Int → Int → PyData} (h : OpR X f (rI C g)) (hg : ∀ B i j, DD (kw X) B (g i j) (g' i j)) : OpR X f (upR2 (kw X) (rIntD C g')) := by
  intro pins s σ H x y v u Q I rx ry h'
  obtain ⟨B, M, d, e, Q0, rel, r1, r2, ⟨i, j, rfl, rfl, c, q⟩, k⟩ := h'
  obtain rfl := rv_int r1
  obtain rfl := rv_int r2
  exact h pins s σ H _ _ v u Q I rx ry ⟨_, _, rfl, rfl, c, k _ M _ B H q (.refl rel) (.d (hg B i j))⟩
def CT (_ _ : Int) : Prop := True
theorem opd_int0 {f : Value → Value → Sem Value} {g : Int → Int → V} {g' : Int → Int → PyData} (h : OpR X f (rI0 g)) (hg : ∀ B i j, DD (kw X) B (g i j) (g' i j)) : OpR X f (upR2 (kw X) (rIntD CT g')) := by
  intro pins s σ H x y v u Q I rx ry h'
  obtain ⟨B, M, d, e, Q0, rel, r1, r2, ⟨i, j, rfl, rfl, c, q⟩, k⟩ := h'
  obtain rfl := rv_int r1
  obtain rfl := rv_int r2
  exact h pins s σ H _ _ v u Q I rx ry ⟨_, _, rfl, rfl, k _ M _ B H q (.refl rel) (.d (hg B i j))⟩
theorem opd_sub : OpR X (binaryOp .Sub) (upR2 (kw X) (rIntD CT fun i j => .int (i - j))) := opd_int0 op_sub fun _ _ _ => .int _
theorem opd_fdiv : OpR X (binaryOp .FloorDiv) (upR2 (kw X) (rIntD CDiv fun i j => .int (i / j))) := opd_int op_fdiv fun _ _ _ => .int _
theorem opd_mod : OpR X (binaryOp .Mod) (upR2 (kw X) (rIntD (fun _ j => 0 < j) fun i j => .int (i % j))) := opd_int op_mod fun _ _ _ => .int _
def rMulD : RD2 := fun x y M Q => match x, y with
  | .d (.int i), .d (.int j) => CMul i j ∧ Q (.d (.int (i * j))) M
  | x, .d (.int j) => (∃ xs, tupOf x = some xs ∧ xs ≠ [] ∧ 2 ≤ j ∧ j ≤ 1000 ∧ xs.length ≤ 1000 ∧ Q (mkTup (List.replicate j.toNat xs).flatten) M) ∨
      ∃ xs, lstOf M x = some xs ∧ -(2 ^ 63) ≤ j ∧ j < 2 ^ 63 ∧ xs.length * j.toNat ≤ sizeLine ∧ ∀ p, M p = none → Q (.ref p) (put M p (.lst (List.replicate j.toNat xs).flatten))
  | _, _ => False
theorem RVs.rep {K : Kw} {B : Hp} {vs : List V} {ds : List DV} (r : RVs K B vs ds) : ∀ n : Nat, RVs K B (List.replicate n vs).flatten (List.replicate n ds).flatten
  | 0 => .nil
  | n + 1 => by
    rw [List.replicate_succ, List.replicate_succ, List.flatten_cons, List.flatten_cons]
    exact r.append (RVs.rep r n)
theorem opd_mul : OpR X (binaryOp .Mult) (upR2 (kw X) rMulD) := by
  intro pins s σ H x y v u Q I rx ry h
  obtain ⟨B, M, d, e, Q0, rel, r1, r2, h, k⟩ := h
  unfold rMulD at h
  split at h
  · obtain rfl := rv_int r1
    obtain rfl := rv_int r2
    exact op_mul pins s σ H _ _ v u Q I rx ry ⟨_, _, rfl, rfl, h.1, k _ M _ B H h.2 (.refl rel) (.d (.int _))⟩
  · rename_i j _
    obtain rfl := rv_int r2
    rcases h with ⟨xs, e1, hn, h1, h2, hz, q⟩ | ⟨xs, e1, h1, h2, hz, q⟩
    · obtain ⟨a, vs, rfl, s1, w1⟩ := rv_tup rel r1 e1
      refine op_repT pins s σ H _ _ v u Q I rx ry ⟨a, _, vs, rfl, rfl, s1, fun z => ?_, h1, h2, by rw [w1.length]; exact hz, fun p hp => ?_⟩
      · subst z
        cases w1
        exact hn rfl
      · have st := Step.newB rel hp (.tup (List.replicate j.toNat vs).flatten)
        exact k _ M _ _ _ q st (RV.mkTup (.of upd_same) ((w1.rep _).mono st.same))
    · obtain ⟨a, vs, rfl, s1, w1⟩ := rv_lst rel r1 (lstOf_or e1)
      refine op_rep pins s σ H _ _ v u Q I rx ry ⟨a, _, vs, rfl, rfl, s1, h1, h2, by rw [w1.length]; exact hz, fun p hp => ?_⟩
      exact k _ _ _ _ _ (q p (rel.freshM hp)) (Step.newM rel hp (.l (w1.rep _))) (.ref p)
  · exact h.elim
def rNegD : RD1 := fun x M Q => ∃ i, x = .d (.int i) ∧ Q (.d (.int (-i))) M
theorem und_neg : UnR X (unaryOp .USub) (upR1 (kw X) rNegD) := by
  intro pins s σ H x v Q I rx h
  obtain ⟨B, M, d, Q0, rel, r1, ⟨i, rfl, q⟩, k⟩ := h
  obtain rfl := rv_int r1
  exact un_neg pins s σ H _ v Q I rx ⟨_, rfl, k _ M _ B H q (.refl rel) (.d (.int _))⟩

/-! ### comparisons -/
theorem opd_lt : OpR X (compareOp .Lt) (upR2 (kw X) (rIntD CT fun i j => .bool (decide (i < j)))) := opd_int0 op_lt fun _ _ _ => .bl _
theorem opd_le : OpR X (compareOp .LtE) (upR2 (kw X) (rIntD CT fun i j => .bool (decide (i ≤ j)))) := opd_int0 op_le fun _ _ _ => .bl _
theorem opd_gt : OpR X (compareOp .Gt) (upR2 (kw X) (rIntD CT fun i j => .bool (decide (j < i)))) := opd_int0 op_gt fun _ _ _ => .bl _
theorem opd_ge : OpR X (compareOp .GtE) (upR2 (kw X) (rIntD CT fun i j => .bool (decide (j ≤ i)))) := opd_int0 op_ge fun _ _ _ => .bl _
def allSome {α : Type} : List (Option α) → Option (List α)
  | [] => some []
  | some x :: r => (allSome r).map (x :: ·)
  | none :: _ => none
/-- the data that a value is now -/
def rd : Nat → DM → DV → Option PyData
  | _, _, .d x => some x
  | 0, _, _ => none
  | n + 1, M, .ref a => match M a with
    | some (.lst xs) => (allSome (xs.map (rd n M))).map .list
    | _ => none
  | n + 1, M, .tp xs => (allSome (xs.map (rd n M))).map .tuple
theorem dps_of_all {K : Kw} {B : Hp} {H : Hp} {f : DV → Option PyData} : ∀ {vs : List V} {ds : List DV} {xs : List PyData}, (∀ d ∈ ds, ∀ v x, RV K B v d → f d = some x → Dp K.K H v x) → RVs K B vs ds → allSome (ds.map f) = some xs → DpAll K.K H vs xs
  | _, [], xs, _, r, e => by
    cases r; cases e; exact .nil
  | _, d :: ds, xs, hf, r, e => by
    cases r with
    | cons r t =>
      rw [List.map_cons] at e
      cases q : f d with
      | none => rw [q] at e; cases e
      | some x =>
        rw [q] at e
        unfold allSome at e
        cases q2 : allSome (ds.map f) with
        | none => rw [q2] at e; cases e
        | some ys =>
          rw [q2] at e; cases e
          exact .cons (hf d List.mem_cons_self _ _ r q) (dps_of_all (fun d' h => hf d' (List.mem_cons_of_mem _ h)) t q2)
theorem dp_of_rd {K : Kw} {B : Hp} {M : DM} {H : Hp} (rel : Rel K B M H) : ∀ (n : Nat) (d : DV) (v : V) (x : PyData), RV K B v d → rd n M d = some x → Dp K.K H v x
  | n, .d y, v, x, r, e => by
    have e' : y = x := by
      cases n <;> (unfold rd at e; exact Option.some.inj e)
    subst e'
    cases r with
    | d r => exact (dp_mono rel.sub _ _ r).dp
  | 0, .ref a, v, x, r, e => by unfold rd at e; cases e
  | 0, .tp a, v, x, r, e => by unfold rd at e; cases e
  | n + 1, .ref a, v, x, r, e => by
    cases r
    unfold rd at e
    cases q : M a with
    | none => rw [q] at e; cases e
    | some o =>
      rw [q] at e
      cases o <;> try (cases e)
      rename_i xs
      obtain ⟨h, e1, ro⟩ := rel.get q
      obtain ⟨vs, rfl, r⟩ := ro.lst
      simp only at e
      cases q2 : allSome (xs.map (rd n M)) with
      | none => rw [q2] at e; cases e
      | some ys =>
        rw [q2] at e; cases e
        exact .lst (.of e1) (dps_of_all (fun d _ v x r e => dp_of_rd rel n d v x r e) r q2)
  | n + 1, .tp xs, v, x, r, e => by
    cases r with
    | tp h1 h2 =>
      unfold rd at e
      cases q2 : allSome (xs.map (rd n M)) with
      | none => rw [q2] at e; cases e
      | some ys =>
        rw [q2] at e; cases e
        exact .tup (same_seqT rel.sub h1) (dps_of_all (fun d _ v x r e => dp_of_rd rel n d v x r e) h2 q2)
def rEqDD (neg : Bool) : RD2 := fun x y M Q => ∃ a b, rd 3 M x = some a ∧ rd 3 M y = some b ∧ SeqAt.shaped a = true ∧ SeqAt.shaped b = true ∧ Q (.d (.bool (if neg = true then !PyData.eqv a b else PyData.eqv a b))) M
theorem opd_eq (hu : X.A.units + 64 < cLine) : OpR X (compareOp .Eq) (upR2 (kw X) (rEqDD false)) := by
  intro pins s σ H x y v u Q I rx ry h
  obtain ⟨B, M, d, e, Q0, rel, r1, r2, ⟨a, b, e1, e2, s1, s2, q⟩, k⟩ := h
  exact op_eqD hu pins s σ H x y v u Q I rx ry ⟨a, b, dp_of_rd rel 3 _ _ _ r1 e1, dp_of_rd rel 3 _ _ _ r2 e2, s1, s2, k _ M _ B H q (.refl rel) (.d (.bl _))⟩
theorem opd_ne (hu : X.A.units + 64 < cLine) : OpR X (compareOp .NotEq) (upR2 (kw X) (rEqDD true)) := by
  intro pins s σ H x y v u Q I rx ry h
  obtain ⟨B, M, d, e, Q0, rel, r1, r2, ⟨a, b, e1, e2, s1, s2, q⟩, k⟩ := h
  exact op_neD hu pins s σ H x y v u Q I rx ry ⟨a, b, dp_of_rd rel 3 _ _ _ r1 e1, dp_of_rd rel 3 _ _ _ r2 e2, s1, s2, k _ M _ B H q (.refl rel) (.d (.bl _))⟩
def seqData : PyData → Option (List PyData)
  | .list xs => some xs
  | .tuple xs => some xs
  | _ => none
def rInDD (neg : Bool) : RD2 := fun x y M Q => ∃ a b ds, rd 3 M x = some a ∧ rd 3 M y = some b ∧ seqData b = some ds ∧ SeqAt.shaped a = true ∧ SeqAt.shaped b = true ∧ Q (.d (.bool (if neg = true then !(ds.any fun z => PyData.eqv z a) else ds.any fun z => PyData.eqv z a))) M
theorem opd_in (hu : X.A.units + 65 < cLine) : OpR X (compareOp .In) (upR2 (kw X) (rInDD false)) := by
  intro pins s σ H x y v u Q I rx ry h
  obtain ⟨B, M, d, e, Q0, rel, r1, r2, ⟨a, b, ds, e1, e2, e3, s1, s2, q⟩, k⟩ := h
  have d1 := dp_of_rd rel 3 _ _ _ r1 e1
  have d2 := dp_of_rd rel 3 _ _ _ r2 e2
  obtain ⟨as, w1⟩ := Dp.reads I a x v d1 rx
  obtain ⟨bs, w2⟩ := Dp.reads I b y u d2 ry
  have fin := k _ M _ B H q (.refl rel) (.d (.bl _))
  cases b <;> try (cases e3)
  · exact SeqAt.in_list_reads w2 w1 (SeqAt.canLay_of_shaped s2) (SeqAt.canLay_of_shaped s1) (PyProof.Rows.room_in_shaped s1 hu) ⟨.bl _, H, I, rfl, fin⟩
  · exact SeqAt.in_tuple_reads w2 w1 (SeqAt.canLay_of_shaped s2) (SeqAt.canLay_of_shaped s1) (PyProof.Rows.room_in_shaped s1 hu) ⟨.bl _, H, I, rfl, fin⟩
theorem opd_notIn (hu : X.A.units + 65 < cLine) : OpR X (compareOp .NotIn) (upR2 (kw X) (rInDD true)) := by
  intro pins s σ H x y v u Q I rx ry h
  obtain ⟨B, M, d, e, Q0, rel, r1, r2, ⟨a, b, ds, e1, e2, e3, s1, s2, q⟩, k⟩ := h
  have d1 := dp_of_rd rel 3 _ _ _ r1 e1
  have d2 := dp_of_rd rel 3 _ _ _ r2 e2
  obtain ⟨as, w1⟩ := Dp.reads I a x v d1 rx
  obtain ⟨bs, w2⟩ := Dp.reads I b y u d2 ry
  have fin := k _ M _ B H q (.refl rel) (.d (.bl _))
  cases b <;> try (cases e3)
  · exact SeqAt.notIn_list_reads w2 w1 (SeqAt.canLay_of_shaped s2) (SeqAt.canLay_of_shaped s1) (PyProof.Rows.room_in_shaped s1 hu) ⟨.bl _, H, I, rfl, fin⟩
  · exact SeqAt.notIn_tuple_reads w2 w1 (SeqAt.canLay_of_shaped s2) (SeqAt.canLay_of_shaped s1) (PyProof.Rows.room_in_shaped s1 hu) ⟨.bl _, H, I, rfl, fin⟩
/-- is None -/
def isNon : DV → Bool
  | .d .none => true
  | _ => false
theorem rv_isNon {K : Kw} {B : Hp} {v : V} {d : DV} (r : RV K B v d) : decide (v = .non) = isNon d := by
  cases r with
  | d r => cases r <;> simp [isNon]
  | ref a => simp [isNon]
  | tp h1 h2 => simp [isNon]
def rIsN (neg : Bool) : RD2 := fun x y M Q => y = .d .none ∧ Q (.d (.bool (if neg = true then !isNon x else isNon x))) M
theorem opd_isN : OpR X (compareOp .Is) (upR2 (kw X) (rIsN false)) := by
  intro pins s σ H x y v u Q I rx ry h
  obtain ⟨B, M, d, e, Q0, rel, r1, r2, ⟨rfl, q⟩, k⟩ := h
  obtain rfl := rv_none r2
  refine op_isN pins s σ H _ _ v u Q I rx ry ⟨rfl, ?_⟩
  rw [rv_isNon r1]
  exact k _ M _ B H q (.refl rel) (.d (.bl _))
theorem opd_notN : OpR X (compareOp .IsNot) (upR2 (kw X) (rIsN true)) := by
  intro pins s σ H x y v u Q I rx ry h
  obtain ⟨B, M, d, e, Q0, rel, r1, r2, ⟨rfl, q⟩, k⟩ := h
  obtain rfl := rv_none r2
  refine op_notN pins s σ H _ _ v u Q I rx ry ⟨rfl, ?_⟩
  rw [rv_isNon r1]
  exact k _ M _ B H q (.refl rel) (.d (.bl _))

/-! ### built-ins -/
def rLen : RDL := fun ds M Q => ∃ x, ds = [x] ∧ ((∃ xs, seqOf M x = some xs ∧ Q (.d (.int xs.length)) M) ∨ ∃ z, x = .d (.str z) ∧ z.length ≤ sizeLine ∧ Q (.d (.int z.length)) M)
theorem cd_len : CallR X (.builtin "len") (upRL (kw X) rLen) := by
  intro pins s σ H xs us Q I r h
  obtain ⟨B, M, ds, Q0, rel, r1, ⟨x, rfl, h⟩, k⟩ := h
  obtain ⟨v, rfl, r1'⟩ := rv_one r1
  rcases h with ⟨xs, e, q⟩ | ⟨z, rfl, hz, q⟩
  · obtain ⟨a, vs, rfl, s1, w1⟩ := rv_seq rel r1' e
    have fin := k _ M (.int vs.length) B H q (.refl rel) (by rw [← w1.length]; exact .d (.int _))
    exact call_len pins s σ H _ us Q I r ⟨_, vs.length, rfl, (by
      rcases s1 with s1 | s1
      · exact .inl ⟨vs, s1, rfl⟩
      · exact .inr ⟨vs, s1, rfl⟩), fin⟩
  · obtain rfl := rv_str r1'
    exact call_len pins s σ H _ us Q I r ⟨_, z.length, rfl, ⟨hz, rfl⟩, k _ M _ B H q (.refl rel) (.d (.int _))⟩
def rAbs : RDL := fun ds M Q => ∃ i, ds = [.d (.int i)] ∧ Q (.d (.int (if i < 0 then -i else i))) M
theorem cd_abs : CallR X (.builtin "abs") (upRL (kw X) rAbs) := by
  intro pins s σ H xs us Q I r h
  obtain ⟨B, M, ds, Q0, rel, r1, ⟨i, rfl, q⟩, k⟩ := h
  obtain ⟨v, rfl, r1'⟩ := rv_one r1
  obtain rfl := rv_int r1'
  exact call_abs pins s σ H _ us Q I r ⟨i, rfl, k _ M _ B H q (.refl rel) (.d (.int _))⟩
def rInt2 (g : Int → Int → Int) : RDL := fun ds M Q => ∃ i j, ds = [.d (.int i), .d (.int j)] ∧ Q (.d (.int (g i j))) M
theorem cd_max2 (hc : X.calm = true) : CallR X (.builtin "max") (upRL (kw X) (rInt2 fun i j => if j > i then j else i)) := by
  intro pins s σ H xs us Q I r h
  obtain ⟨B, M, ds, Q0, rel, r1, ⟨i, j, rfl, q⟩, k⟩ := h
  obtain ⟨v, u, rfl, r1', r2'⟩ := rv_two r1
  obtain rfl := rv_int r1'
  obtain rfl := rv_int r2'
  exact call_max2 hc pins s σ H _ us Q I r ⟨i, j, rfl, k _ M _ B H q (.refl rel) (.d (.int _))⟩
theorem cd_min2 (hc : X.calm = true) : CallR X (.builtin "min") (upRL (kw X) (rInt2 fun i j => if j < i then j else i)) := by
  intro pins s σ H xs us Q I r h
  obtain ⟨B, M, ds, Q0, rel, r1, ⟨i, j, rfl, q⟩, k⟩ := h
  obtain ⟨v, u, rfl, r1', r2'⟩ := rv_two r1
  obtain rfl := rv_int r1'
  obtain rfl := rv_int r2'
  exact call_min2 hc pins s σ H _ us Q I r ⟨i, j, rfl, k _ M _ B H q (.refl rel) (.d (.int _))⟩
def rInt1 : RDL := fun ds M Q => (∃ i, ds = [.d (.int i)] ∧ Q (.d (.int i)) M) ∨ ∃ k, ds = [.d (.bool k)] ∧ Q (.d (.int (if k then 1 else 0))) M
theorem cd_int : CallR X (.type "int") (upRL (kw X) rInt1) := by
  intro pins s σ H xs us Q I r h
  obtain ⟨B, M, ds, Q0, rel, r1, h, k⟩ := h
  rcases h with ⟨i, rfl, q⟩ | ⟨i, rfl, q⟩
  · obtain ⟨v, rfl, r1'⟩ := rv_one r1
    obtain rfl := rv_int r1'
    exact call_int1 pins s σ H _ us Q I r (.inl ⟨i, rfl, k _ M _ B H q (.refl rel) (.d (.int _))⟩)
  · obtain ⟨v, rfl, r1'⟩ := rv_one r1
    obtain rfl := rv_bool r1'
    exact call_int1 pins s σ H _ us Q I r (.inr ⟨i, rfl, k _ M _ B H q (.refl rel) (.d (.int _))⟩)
/-- list(xs): a new list that may be changed -/
def rList1 : RDL := fun ds M Q => ∃ x xs, ds = [x] ∧ seqOf M x = some xs ∧ ∀ p, M p = none → Q (.ref p) (put M p (.lst xs))
theorem cd_list : CallR X (.type "list") (upRL (kw X) rList1) := by
  intro pins s σ H xs us Q I r h
  obtain ⟨B, M, ds, Q0, rel, r1, ⟨x, xs, rfl, e, q⟩, k⟩ := h
  obtain ⟨v, rfl, r1'⟩ := rv_one r1
  obtain ⟨a, vs, rfl, s1, w1⟩ := rv_seq rel r1' e
  refine call_list_of pins s σ H _ us Q I r ⟨a, vs, rfl, s1, fun p hp => ?_⟩
  exact k _ _ _ _ _ (q p (rel.freshM hp)) (Step.newM rel hp (.l w1)) (.ref p)
/-- list(xs): data that nobody changes -/
def rList1F : RDL := fun ds M Q => ∃ x xs ys, ds = [x] ∧ seqOf M x = some xs ∧ dataL xs = some ys ∧ Q (.d (.list ys)) M
theorem cd_listF : CallR X (.type "list") (upRL (kw X) rList1F) := by
  intro pins s σ H xs us Q I r h
  obtain ⟨B, M, ds, Q0, rel, r1, ⟨x, xs, ys, rfl, e, e2, q⟩, k⟩ := h
  obtain ⟨v, rfl, r1'⟩ := rv_one r1
  obtain ⟨a, vs, rfl, s1, w1⟩ := rv_seq rel r1' e
  have e' := dataL_eq e2
  subst e'
  refine call_list_of pins s σ H _ us Q I r ⟨a, vs, rfl, s1, fun p hp => ?_⟩
  have st := Step.newB rel hp (.lst vs)
  exact k _ M _ _ _ q st (.d (.lst upd_same (dp_monoL st.same _ _ w1.toDp)))
def rTuple1 : RDL := fun ds M Q => ∃ x xs, ds = [x] ∧ seqOf M x = some xs ∧ Q (mkTup xs) M
theorem cd_tuple : CallR X (.type "tuple") (upRL (kw X) rTuple1) := by
  intro pins s σ H xs us Q I r h
  obtain ⟨B, M, ds, Q0, rel, r1, ⟨x, xs, rfl, e, q⟩, k⟩ := h
  obtain ⟨v, rfl, r1'⟩ := rv_one r1
  unfold seqOf at e
  cases e1 : listOf M x with
  | some ys =>
    rw [e1] at e; cases e
    obtain ⟨a, vs, rfl, s1, w1⟩ := rv_list rel r1' e1
    refine call_tuple_of pins s σ H _ us Q I r ⟨a, vs, rfl, .inl ⟨s1, fun p hp => ?_⟩⟩
    have st := Step.newB rel hp (.tup vs)
    exact k _ M _ _ _ q st (RV.mkTup (.of upd_same) (w1.mono st.same))
  | none =>
    rw [e1] at e
    obtain ⟨a, vs, rfl, s1, w1⟩ := r1'.tup e
    exact call_tuple_of pins s σ H _ us Q I r ⟨a, vs, rfl, .inr ⟨same_seqT rel.sub s1, k _ M _ B H q (.refl rel) (RV.mkTup s1 w1)⟩⟩
/-- a list of ints, of truth values, in the layer's own form -/
theorem rv_intsOf {K : Kw} {B : Hp} : ∀ {ns : List Int} {vs : List V}, RVs K B vs (ns.map fun i => DV.d (.int i)) → vs = ns.map V.int
  | [], vs, r => by cases r; rfl
  | n :: ns, vs, r => by
    cases r with
    | cons r t => rw [rv_int r, rv_intsOf t]; rfl
theorem rv_blsOf {K : Kw} {B : Hp} : ∀ {ns : List Bool} {vs : List V}, RVs K B vs (ns.map fun i => DV.d (.bool i)) → vs = ns.map V.bl
  | [], vs, r => by cases r; rfl
  | n :: ns, vs, r => by
    cases r with
    | cons r t => rw [rv_bool r, rv_blsOf t]; rfl
def rSumD : RDL := fun ds M Q => ∃ (x : DV) (ns : List Int), ds = [x] ∧ listOf M x = some (ns.map fun i => DV.d (.int i)) ∧ Q (.d (.int ns.sum)) M
theorem cd_sum (hc : X.calm = true) : CallR X (.builtin "sum") (upRL (kw X) rSumD) := by
  intro pins s σ H xs us Q I r h
  obtain ⟨B, M, ds, Q0, rel, r1, ⟨x, ns, rfl, e, q⟩, k⟩ := h
  obtain ⟨v, rfl, r1'⟩ := rv_one r1
  obtain ⟨a, vs, rfl, s1, w1⟩ := rv_list rel r1' e
  obtain rfl := rv_intsOf w1
  exact cr_sum hc pins s σ H _ us Q I r ⟨a, ns, rfl, s1, k _ M _ B H q (.refl rel) (.d (.int _))⟩
def rAllD (g : List Bool → Bool) : RDL := fun ds M Q => ∃ (x : DV) (ns : List Bool), ds = [x] ∧ listOf M x = some (ns.map fun i => DV.d (.bool i)) ∧ Q (.d (.bool (g ns))) M
theorem cd_all (hc : X.calm = true) : CallR X (.builtin "all") (upRL (kw X) (rAllD fun bs => bs.all id)) := by
  intro pins s σ H xs us Q I r h
  obtain ⟨B, M, ds, Q0, rel, r1, ⟨x, ns, rfl, e, q⟩, k⟩ := h
  obtain ⟨v, rfl, r1'⟩ := rv_one r1
  obtain ⟨a, vs, rfl, s1, w1⟩ := rv_list rel r1' e
  obtain rfl := rv_blsOf w1
  exact cr_all hc pins s σ H _ us Q I r ⟨a, ns, rfl, s1, k _ M _ B H q (.refl rel) (.d (.bl _))⟩
theorem cd_any (hc : X.calm = true) : CallR X (.builtin "any") (upRL (kw X) (rAllD fun bs => bs.any id)) := by
  intro pins s σ H xs us Q I r h
  obtain ⟨B, M, ds, Q0, rel, r1, ⟨x, ns, rfl, e, q⟩, k⟩ := h
  obtain ⟨v, rfl, r1'⟩ := rv_one r1
  obtain ⟨a, vs, rfl, s1, w1⟩ := rv_list rel r1' e
  obtain rfl := rv_blsOf w1
  exact cr_any hc pins s σ H _ us Q I r ⟨a, ns, rfl, s1, k _ M _ B H q (.refl rel) (.d (.bl _))⟩
/-- max(xs), min(xs) of ints: one that is greatest, least -/
def rMostD (le : Int → Int → Prop) : RDL := fun ds M Q => ∃ (x : DV) (ns : List Int), ds = [x] ∧ listOf M x = some (ns.map fun i => DV.d (.int i)) ∧ 0 < ns.length ∧ ∀ m, m ∈ ns → (∀ y, y ∈ ns → le y m) → Q (.d (.int m)) M
theorem cd_max (hc : X.calm = true) : CallR X (.builtin "max") (upRL (kw X) (rMostD fun y m => y ≤ m)) := by
  intro pins s σ H xs us Q I r h
  obtain ⟨B, M, ds, Q0, rel, r1, ⟨x, ns, rfl, e, hl, q⟩, k⟩ := h
  obtain ⟨v, rfl, r1'⟩ := rv_one r1
  obtain ⟨a, vs, rfl, s1, w1⟩ := rv_list rel r1' e
  obtain rfl := rv_intsOf w1
  exact cr_max hc pins s σ H _ us Q I r ⟨a, ns, rfl, s1, hl, fun m h1 h2 => k _ M _ B H (q m h1 h2) (.refl rel) (.d (.int _))⟩
theorem cd_min (hc : X.calm = true) : CallR X (.builtin "min") (upRL (kw X) (rMostD fun y m => m ≤ y)) := by
  intro pins s σ H xs us Q I r h
  obtain ⟨B, M, ds, Q0, rel, r1, ⟨x, ns, rfl, e, hl, q⟩, k⟩ := h
  obtain ⟨v, rfl, r1'⟩ := rv_one r1
  obtain ⟨a, vs, rfl, s1, w1⟩ := rv_list rel r1' e
  obtain rfl := rv_intsOf w1
  exact cr_min hc pins s σ H _ us Q I r ⟨a, ns, rfl, s1, hl, fun m h1 h2 => k _ M _ B H (q m h1 h2) (.refl rel) (.d (.int _))⟩
/-- repr(x) -/
def rReprD : RDL := fun ds M Q => ∃ x a, ds = [x] ∧ rd 3 M x = some a ∧ a.showable = true ∧ a.hasDict = false ∧ a.depth ≤ 64 ∧ a.shown.length ≤ sizeLine ∧ Q (.d (.str a.shown)) M
theorem cd_repr (hg : X.A.guards = some []) (hu : X.A.units + 66 < cLine) : CallR X (.builtin "repr") (upRL (kw X) rReprD) := by
  intro pins s σ H xs us Q I r h
  obtain ⟨B, M, ds, Q0, rel, r1, ⟨x, a, rfl, e, sh, nd, dp, sz, q⟩, k⟩ := h
  obtain ⟨v, rfl, r1'⟩ := rv_one r1
  have d1 := dp_of_rd rel 3 _ _ _ r1' e
  obtain ⟨u, rfl, ru⟩ := r.one
  obtain ⟨as, w1⟩ := Dp.reads I a v u d1 ru
  have fin : ∀ (h' : Heap) (uu : Tok) (tk : Nat), (∀ b o, s.heap.get? b = some o → h'.get? b = some o) → EP X pins σ Q (.str a.shown uu) { s with heap := h', toks := tk } := fun h' uu tk hk =>
    ⟨.str a.shown, H, I.kept (t' := tk) hk, ⟨_, rfl⟩, k _ M _ B H q (.refl rel) (.d (.str _))⟩
  cases d1 with
  | non => cases ru; exact PySem.P.repr_of_none (by have f := fin s.heap s.toks (s.toks + 1) (fun _ _ e => e); simpa only [PyData.shown] using f)
  | bl b => cases ru; exact PySem.P.repr_of_bool (by have f := fin s.heap s.toks (s.toks + 1) (fun _ _ e => e); simpa only [PyData.shown] using f)
  | int i =>
    obtain ⟨t, rfl⟩ := ru
    exact PySem.P.repr_of_int (by simpa [PyData.showable] using sh) (by have f := fin s.heap s.toks (s.toks + 1) (fun _ _ e => e); simpa only [PyData.shown] using f)
  | str z =>
    obtain ⟨t, rfl⟩ := ru
    exact PySem.P.repr_of_str (by have f := fin s.heap s.toks (s.toks + 1) (fun _ _ e => e); simpa only [PyData.shown] using f) (by simpa only [PyData.shown] using sz)
  | lst h1 h2 =>
    cases ru
    exact repr_of_reads' w1 sh (fun z => by rw [nd] at z; cases z) hg (by omega) (fun _ _ e => e) (fun h' uu tk hk => fin h' uu tk hk) sz
  | tup h1 h2 =>
    cases ru
    exact repr_of_reads' w1 sh (fun z => by rw [nd] at z; cases z) hg (by omega) (fun _ _ e => e) (fun h' uu tk hk => fin h' uu tk hk) sz

/-! ### subscripts -/
def rIxD : RD2 := fun x y M Q => ∃ xs i d, seqOf M x = some xs ∧ y = .d (.int i) ∧ atI xs i = some d ∧ Q d M
theorem atI_rel {K : Kw} {B : Hp} {vs : List V} {ds : List DV} {i : Int} {d : DV} (r : RVs K B vs ds) (e : atI ds i = some d) : ∃ v, atI vs i = some v ∧ RV K B v d := by
  unfold atI at e ⊢
  rw [r.length]
  cases q : ixN ds.length i with
  | none => rw [q] at e; cases e
  | some j =>
    rw [q] at e
    exact r.get e
theorem ixd_seq : IxR X (upR2 (kw X) rIxD) := by
  intro value slice pins s σ H x y v u Q I rx ry h hs
  obtain ⟨B, M, d, e, Q0, rel, r1, r2, ⟨xs, i, z, e1, rfl, e2, q⟩, k⟩ := h
  obtain rfl := rv_int r2
  obtain ⟨a, vs, rfl, s1, w1⟩ := rv_seq rel r1 e1
  obtain ⟨v', e3, r3⟩ := atI_rel w1 e2
  have fin := k _ M _ B H q (.refl rel) r3
  rcases s1 with s1 | s1
  · exact ix_seq value slice pins s σ H _ _ v u Q I rx ry (.inl ⟨a, vs, i, v', rfl, rfl, s1, e3, fin⟩) hs
  · exact ix_seq value slice pins s σ H _ _ v u Q I rx ry (.inr (.inl ⟨a, vs, i, v', rfl, rfl, s1, e3, fin⟩)) hs
def cutD (xs : List DV) (lo hi : Option Int) : List DV := (xs.drop (HT.sIx xs.length 0 lo)).take (HT.sIx xs.length xs.length hi - HT.sIx xs.length 0 lo)
theorem RVs.cut {K : Kw} {B : Hp} {vs : List V} {ds : List DV} (r : RVs K B vs ds) (lo hi : Option Int) : RVs K B (cutV vs lo hi) (cutD ds lo hi) := by
  unfold cutV cutD
  rw [r.length]
  exact (r.drop _).take _
def rSlTD : RDS := fun x lo hi M Q => ∃ xs, tupOf x = some xs ∧ Q (mkTup (cutD xs lo hi)) M
theorem sld_tup : SlR X (upRS (kw X) rSlTD) := by
  intro pins s σ H x v vl vu lo hi sl Q I rx hs pl pu h
  obtain ⟨B, M, d, Q0, rel, r1, ⟨xs, e1, q⟩, k⟩ := h
  obtain ⟨a, vs, rfl, s0, w1⟩ := r1.tup e1
  have s1 := same_seqT (K := (kw X)) rel.sub s0
  refine sl_tupA pins s σ H _ v vl vu lo hi sl Q I rx hs pl pu ⟨a, vs, rfl, s1, fun hw => ?_, fun hw p hp => ?_⟩
  · have e : cutD xs lo hi = xs := by
      unfold cutD
      rw [← w1.length, hw.1, hw.2, List.drop_zero, w1.length]
      simp
    rw [e] at q
    exact k _ M _ B H q (.refl rel) (RV.mkTup s0 w1)
  · have st := Step.newB rel hp (.tup (cutV vs lo hi))
    exact k _ M _ _ _ q st (RV.mkTup (.of upd_same) ((w1.cut lo hi).mono st.same))
def rSlLD : RDS := fun x lo hi M Q => ∃ xs, listOf M x = some xs ∧ ∀ p, M p = none → Q (.ref p) (put M p (.lst (cutD xs lo hi)))
theorem sld_list : SlR X (upRS (kw X) rSlLD) := by
  intro pins s σ H x v vl vu lo hi sl Q I rx hs pl pu h
  obtain ⟨B, M, d, Q0, rel, r1, ⟨xs, e1, q⟩, k⟩ := h
  obtain ⟨a, vs, rfl, s1, w1⟩ := rv_list rel r1 e1
  exact sl_list pins s σ H _ v vl vu lo hi sl Q I rx hs pl pu ⟨a, vs, rfl, s1, fun p hp => k _ _ _ _ _ (q p (rel.freshM hp)) (Step.newM rel hp (.l (w1.cut lo hi))) (.ref p)⟩
def rSlLF : RDS := fun x lo hi M Q => ∃ xs ys, listOf M x = some xs ∧ dataL (cutD xs lo hi) = some ys ∧ Q (.d (.list ys)) M
theorem sld_listF : SlR X (upRS (kw X) rSlLF) := by
  intro pins s σ H x v vl vu lo hi sl Q I rx hs pl pu h
  obtain ⟨B, M, d, Q0, rel, r1, ⟨xs, ys, e1, e2, q⟩, k⟩ := h
  obtain ⟨a, vs, rfl, s1, w1⟩ := rv_list rel r1 e1
  refine sl_list pins s σ H _ v vl vu lo hi sl Q I rx hs pl pu ⟨a, vs, rfl, s1, fun p hp => ?_⟩
  have st := Step.newB rel hp (.lst (cutV vs lo hi))
  have w2 := w1.cut lo hi
  have e' := dataL_eq e2
  rw [e'] at w2
  exact k _ M _ _ _ q st (.d (.lst upd_same (dp_monoL st.same _ _ w2.toDp)))
/-- a slice of a list or of a tuple: the one or the other, by what stands there -/
theorem sld_or {r r' : RDS} (h : SlR X (upRS (kw X) r)) (h' : SlR X (upRS (kw X) r')) : SlR X (upRS (kw X) fun x lo hi M Q => r x lo hi M Q ∨ r' x lo hi M Q) := by
  intro pins s σ H x v vl vu lo hi sl Q I rx hs pl pu ⟨B, M, d, Q0, rel, r1, q, k⟩
  rcases q with q | q
  · exact h pins s σ H x v vl vu lo hi sl Q I rx hs pl pu ⟨B, M, d, Q0, rel, r1, q, k⟩
  · exact h' pins s σ H x v vl vu lo hi sl Q I rx hs pl pu ⟨B, M, d, Q0, rel, r1, q, k⟩
end
end DL

set_option Elab.async false
set_option linter.all false
set_option maxRecDepth 100000
set_option maxHeartbeats 4000000
namespace DL
open PySem L2

section
variable {X : Cx} {st : Stmt} {rest : List Stmt} {t u : TDS} {e : Expr} {te : TDE} {pos : Pos}
/-! ### blocks -/
def dNext : TDS := fun E ρ M => E.nx ρ M
def dSeq (t u : TDS) : TDS := fun E ρ M => t { E with nx := u E } ρ M
theorem dss_nil : DSs X [] dNext := pss_imp pss_nil fun D σ H ⟨B, M, ρ, E0, rel, re, h, c⟩ => c.nx ρ M σ B H h (.refl rel) re
theorem dss_cons (h1 : DS X st t) (h2 : DSs X rest u) : DSs X (st :: rest) (dSeq t u) := pss_imp (pss_cons h1 h2) fun D σ H ⟨B, M, ρ, E0, rel, re, h, c⟩ =>
  ⟨B, M, ρ, { E0 with nx := u E0 }, rel, re, h, ⟨fun ρ' M' σ' B' H' q s r => ⟨B', M', ρ', E0, s.to, r, q, c.step s⟩, c.rt, c.bk, c.ct⟩⟩
theorem dss_one (h1 : DS X st t) : DSs X [st] t := pss_one h1
theorem dss_nox {sts : List Stmt} (h : DSs X.nox sts t) : DSs X sts t := PSs.nox h
def dBreak : TDS := fun E ρ M => E.bk ρ M
def dCont : TDS := fun E ρ M => E.ct ρ M
theorem ds_pass : DS X (.Pass pos) dNext := ps_imp ps_pass fun D σ H ⟨B, M, ρ, E0, rel, re, h, c⟩ => c.nx ρ M σ B H h (.refl rel) re
theorem ds_break : DS X (.Break pos) dBreak := ps_imp ps_break fun D σ H ⟨B, M, ρ, E0, rel, re, h, c⟩ => c.bk ρ M σ B H h (.refl rel) re
theorem ds_continue : DS X (.Continue pos) dCont := ps_imp ps_continue fun D σ H ⟨B, M, ρ, E0, rel, re, h, c⟩ => c.ct ρ M σ B H h (.refl rel) re
def dDrop (te : TDE) : TDS := fun E ρ M => te ρ M fun _ M1 => E.nx ρ M1
theorem ds_expr (he : DE X e te) (hs : swapsWith e none pos.line X.env = pure false := by rfl) : DS X (.Expr e pos) (dDrop te) := ps_imp (ps_expr he hs) fun D σ H ⟨B, M, ρ, E0, rel, re, h, c⟩ =>
  ⟨B, M, ρ, _, rel, re, h, fun d M1 v B1 H1 q s r => c.nx ρ M1 σ B1 H1 q s (re.mono s.same)⟩
def dRet (te : TDE) : TDS := fun E ρ M => te ρ M E.rt
theorem ds_ret (he : DE X e te) : DS X (.Return (some e) pos) (dRet te) := ps_imp (ps_ret he) fun D σ H ⟨B, M, ρ, E0, rel, re, h, c⟩ => ⟨B, M, ρ, _, rel, re, h, c.rt⟩
def dRetN : TDS := fun E _ M => E.rt (.d .none) M
theorem ds_retN : DS X (.Return none pos) dRetN := ps_imp ps_retN fun D σ H ⟨B, M, ρ, E0, rel, re, h, c⟩ => c.rt _ M _ B H h (.refl rel) (.d .non)
def dIfS (c : TDT) (t u : TDS) : TDS := fun E ρ M => c ρ M fun b M1 => if b = true then t E ρ M1 else u E ρ M1
theorem ds_if {c : Expr} {a b : List Stmt} {tc : TDT} (hc : DT X c tc) (ha : DSs X a t) (hb : DSs X b u) : DS X (.If c a b pos) (dIfS tc t u) := ps_imp (ps_if hc ha hb) fun D σ H ⟨B, M, ρ, E0, rel, re, h, cv⟩ => by
  refine ⟨B, M, ρ, _, rel, re, h, fun b M1 B1 H1 q s => ?_⟩
  cases b with
  | true =>
    simp only [if_true] at q ⊢
    exact ⟨B1, M1, ρ, E0, s.to, re.mono s.same, q, cv.step s⟩
  | false =>
    simp only [Bool.false_eq_true, if_false] at q ⊢
    exact ⟨B1, M1, ρ, E0, s.to, re.mono s.same, q, cv.step s⟩
def dNever : TDS := fun _ _ _ => False
theorem ds_never : DS X st dNever := ps_imp ps_never fun D σ H ⟨B, M, ρ, E0, rel, re, h, c⟩ => h.elim
theorem dss_never {sts : List Stmt} : DSs X sts dNever := pss_imp pss_never fun D σ H ⟨B, M, ρ, E0, rel, re, h, c⟩ => h.elim
/-- something that changes nothing but what is known: a list is frozen .. -/
def dGhost (g : DSt → DM → (DSt → DM → Prop) → Prop) (t : TDS) : TDS := fun E ρ M => g ρ M fun ρ' M' => t E ρ' M'
def GhostOk (K : Kw) (g : DSt → DM → (DSt → DM → Prop) → Prop) : Prop := ∀ B M H σ ρ Q, Rel K B M H → RE K B σ ρ → g ρ M Q → ∃ B' M' ρ', Step K B M H B' M' H ∧ RE K B' σ ρ' ∧ Q ρ' M'
theorem dss_ghost {sts : List Stmt} {g : DSt → DM → (DSt → DM → Prop) → Prop} (hg : GhostOk (kw X) g) (h : DSs X sts t) : DSs X sts (dGhost g t) := pss_imp h fun D σ H ⟨B, M, ρ, E0, rel, re, h, c⟩ => by
  obtain ⟨B', M', ρ', s, re', q⟩ := hg B M H σ ρ _ rel re h
  exact ⟨B', M', ρ', E0, s.to, re', q, c.step s⟩
/-- the list in slot i is data from here on -/
def gFrz (i : Nat) : DSt → DM → (DSt → DM → Prop) → Prop := fun ρ M Q => ∃ a xs, ρ[i]? = some (some (.ref a)) ∧ M a = some (.lst (xs.map DV.d)) ∧ Q (ρ.set i (some (.d (.list xs)))) (del M a)
theorem gFrz_ok {K : Kw} (i : Nat) : GhostOk K (gFrz i) := by
  rintro B M H σ ρ Q rel re ⟨a, xs, e1, e2, q⟩
  obtain ⟨B', s, r⟩ := Step.freeze rel e2
  refine ⟨B', del M a, _, s, ?_, q⟩
  obtain ⟨v, ev, rv⟩ := re.get i _ e1
  obtain rfl := rv_ref rv
  have := (re.mono s.same).set r i
  have e : σ.set i (some (V.ref a)) = σ := by
    apply List.ext_getElem?
    intro j
    by_cases h : i = j
    · subst h
      rw [List.getElem?_set_self (List.getElem?_eq_some_iff.mp ev).1, ev]
    · rw [List.getElem?_set_ne h]
  rw [e] at this
  exact this
end

/-! ### targets -/
abbrev TDG := DV → DSt → DM → (DSt → DM → Prop) → Prop
abbrev TDGs := List DV → DSt → DM → (DSt → DM → Prop) → Prop
def upG (K : Kw) (is : List Nat) (g : TDG) : TG := fun v σ H Q => ∃ B M ρ d Q0, Rel K B M H ∧ RE K B σ ρ ∧ RV K B v d ∧ g d ρ M Q0 ∧ ∀ ρ' M' σ' B' H', Q0 ρ' M' → Step K B M H B' M' H' → RE K B' σ' ρ' → Agree is σ σ' → Q σ' H'
def upGs (K : Kw) (is : List Nat) (g : TDGs) : TGs := fun vs σ H Q => ∃ B M ρ ds Q0, Rel K B M H ∧ RE K B σ ρ ∧ RVs K B vs ds ∧ g ds ρ M Q0 ∧ ∀ ρ' M' σ' B' H', Q0 ρ' M' → Step K B M H B' M' H' → RE K B' σ' ρ' → Agree is σ σ' → Q σ' H'
abbrev DG (X : Cx) (tg : Expr) (is : List Nat) (g : TDG) : Prop := PG X tg (upG (kw X) is g)
abbrev DGs (X : Cx) (ts : List Expr) (is : List Nat) (g : TDGs) : Prop := PGs X ts (upGs (kw X) is g)
theorem pg_imp {X : Cx} {e : Expr} {t t' : TG} (h : PG X e t) (i : ∀ v σ H Q, t' v σ H Q → t v σ H Q) : PG X e t' := ⟨fun pins s σ H v u Q I r w => h.run pins s σ H v u Q I r (i v σ H Q w)⟩
theorem pgs_imp {X : Cx} {e : List Expr} {t t' : TGs} (h : PGs X e t) (i : ∀ v σ H Q, t' v σ H Q → t v σ H Q) : PGs X e t' := ⟨fun pins s σ H v u Q I r w => h.run pins s σ H v u Q I r (i v σ H Q w)⟩
section
variable {X : Cx} {pos : Pos}
def dgName (i : Nat) : TDG := fun d ρ M Q => Q (ρ.set i (some d)) M
theorem dg_name {i : Nat} {x : Str} (hN : X.N.Nodup) (hi : X.N[i]? = some x) (hx : Loc X.env.scope x) (hf : X.fn x = true ∨ X.env.scope.names.lookup x = some .local := by first | exact .inl rfl | exact .inr rfl | assumption) : DG X (.Name x pos) [i] (dgName i) :=
  pg_imp (pg_name hN hi hx hf) fun v σ H Q ⟨B, M, ρ, d, Q0, rel, re, rv, h, k⟩ => k _ M _ B H h (.refl rel) (re.set rv i) (Agree.set σ i _)
def dgNil : TDGs := fun ds ρ M Q => ds = [] ∧ Q ρ M
def dgCons (g : TDG) (gs : TDGs) : TDGs := fun ds ρ M Q => ∃ d r, ds = d :: r ∧ g d ρ M fun ρ' M' => gs r ρ' M' Q
theorem dgs_nil : DGs X [] [] dgNil := pgs_imp pgs_nil fun vs σ H Q ⟨B, M, ρ, ds, Q0, rel, re, rv, ⟨e, h⟩, k⟩ => by
  subst e
  cases rv
  exact ⟨rfl, k _ M _ B H h (.refl rel) re (Agree.refl _ _)⟩
theorem dgs_cons {e : Expr} {es : List Expr} {is js : List Nat} {g : TDG} {gs : TDGs} (h1 : DG X e is g) (h2 : DGs X es js gs)
    (hs : (assignEach (e :: es) X.env).map (·.2) = assign e X.env :: (assignEach es X.env).map (·.2) := by rfl) : DGs X (e :: es) (is ++ js) (dgCons g gs) := pgs_imp (pgs_cons h1 h2 hs) fun vs σ H Q ⟨B, M, ρ, ds, Q0, rel, re, rv, ⟨d, r, e, h⟩, k⟩ => by
  subst e
  cases rv with
  | cons rv rt =>
    refine ⟨_, _, rfl, B, M, ρ, d, _, rel, re, rv, h, fun ρ' M' σ' B' H' q s re' ag => ?_⟩
    exact ⟨B', M', ρ', r, Q0, s.to, re', rt.mono s.same, q, fun ρ2 M2 σ2 B2 H2 q2 s2 re2 ag2 => k ρ2 M2 σ2 B2 H2 q2 (s.trans s2) re2 (ag.trans ag2)⟩
def dgTup (n : Nat) (g : TDGs) : TDG := fun d ρ M Q => ∃ xs, tupOf d = some xs ∧ xs.length = n ∧ g xs ρ M Q
theorem dg_tup {es : List Expr} {k : Nat} {is : List Nat} {g : TDGs} {n : Nat} (hc : X.calm = true) (h : DGs X es is g)
    (hn : (assignEach es X.env).length = n := by rfl) (hst : (assignEach es X.env).findIdx? (·.1) = none := by rfl) : DG X (.Tuple es k pos) is (dgTup n g) := pg_imp (pg_tup hc h hn hst) fun v σ H Q ⟨B, M, ρ, d, Q0, rel, re, rv, ⟨xs, e, hl, h⟩, k⟩ => by
  obtain ⟨a, vs, rfl, s1, w1⟩ := rv_tup rel rv e
  exact ⟨a, vs, rfl, s1, by rw [w1.length]; exact hl, B, M, ρ, xs, Q0, rel, re, w1, h, k⟩
/-- o[i] = v, by values -/
abbrev RDSet := DV → DV → DV → DM → (DM → Prop) → Prop
def upSet (K : Kw) (r : RDSet) : V → V → V → Hp → (Hp → Prop) → Prop := fun o i v H Q => ∃ B M x y z Q0, Rel K B M H ∧ RV K B o x ∧ RV K B i y ∧ RV K B v z ∧ r x y z M Q0 ∧ ∀ M' B' H', Q0 M' → Step K B M H B' M' H' → Q H'
def dgSub (to ti : TDE) (r : RDSet) : TDG := fun d ρ M Q => to ρ M fun o M1 => ti ρ M1 fun i M2 => r o i d M2 fun M3 => Q ρ M3
theorem dg_sub {o i : Expr} {to ti : TDE} {r : RDSet} (ho : DE X o to) (hi : DE X i ti) (hs : PSet X (upSet (kw X) r))
    (ha : ∀ v, assign (.Subscript o i pos) X.env v = (do
      let ov ← holding [v] (eval o X.env)
      let iv ← holding [v, ov] (eval i X.env)
      standAt pos
      holding [v, ov, iv] (setItem ov iv v)
      release [v, ov, iv] []) := by intro _; rfl) : DG X (.Subscript o i pos) [] (dgSub to ti r) := pg_imp (pg_sub ho hi hs ha) fun v σ H Q ⟨B, M, ρ, d, Q0, rel, re, rv, h, k⟩ => by
  refine ⟨B, M, ρ, _, rel, re, h, fun x M1 xv B1 H1 q1 s1 r1 => ?_⟩
  refine ⟨B1, M1, ρ, _, s1.to, re.mono s1.same, q1, fun y M2 yv B2 H2 q2 s2 r2 => ?_⟩
  have st := s1.trans s2
  exact ⟨B2, M2, x, y, d, _, st.to, r1.mono s2.same, r2, rv.mono st.same, q2, fun M3 B3 H3 q3 s3 => k ρ M3 σ B3 H3 q3 (st.trans s3) (re.mono (st.trans s3).same) (Agree.refl _ _)⟩
def rSetLD : RDSet := fun x y z M Q => ∃ a xs k j, x = .ref a ∧ y = .d (.int k) ∧ M a = some (.lst xs) ∧ ixN xs.length k = some j ∧ Q (put M a (.lst (xs.set j z)))
theorem setd_list : PSet X (upSet (kw X) rSetLD) := by
  intro pins s σ H o i v ov iv u Q I r1 r2 r3 ⟨B, M, x, y, z, Q0, rel, w1, w2, w3, ⟨a, xs, kk, j, e1, e2, e3, e4, q⟩, k⟩
  subst e1
  subst e2
  obtain rfl := rv_ref w1
  obtain rfl := rv_int w2
  obtain ⟨h, hh, ro⟩ := rel.get e3
  obtain ⟨vs, rfl, w⟩ := ro.lst
  exact set_list pins s σ H _ _ v ov iv u Q I r1 r2 r3 ⟨a, vs, kk, j, rfl, rfl, hh, by rw [w.length]; exact e4, k _ _ _ q (Step.mut rel e3 rfl (.l (w.set w3 j)))⟩
/-! ### assignments -/
def dAsg (te : TDE) (g : TDG) : TDS := fun E ρ M => te ρ M fun x M1 => g x ρ M1 E.nx
variable {e : Expr} {te : TDE}
theorem ds_asg {tg : Expr} {is : List Nat} {g : TDG} (he : DE X e te) (hg : DG X tg is g) (hs : swapsWithSole [tg] e pos.line X.env = pure false := by rfl) (hw : swappedStores [tg] e X.env = pure none := by rfl)
    (h1 : (assignEach [tg] X.env).map (·.2) = [assign tg X.env] := by rfl) : DS X (.Assign [tg] e pos) (dAsg te g) := ps_imp (ps_asg he hg hs hw h1) fun D σ H ⟨B, M, ρ, E0, rel, re, h, c⟩ => by
  refine ⟨B, M, ρ, _, rel, re, h, fun x M1 v B1 H1 q s r => ?_⟩
  exact ⟨B1, M1, ρ, x, _, s.to, re.mono s.same, r, q, fun ρ' M' σ' B' H' q' s' re' _ => c.nx ρ' M' σ' B' H' q' (s.trans s') re'⟩
theorem ds_set {i : Nat} {x : Str} {pos' : Pos} (hN : X.N.Nodup) (hi : X.N[i]? = some x) (hx : Loc X.env.scope x) (he : DE X e te) (hs : swapsWith e (some (.Name x pos')) pos.line X.env = pure false := by rfl) (hf : X.fn x = true ∨ X.env.scope.names.lookup x = some .local := by first | exact .inl rfl | exact .inr rfl | assumption) :
    DS X (.Assign [.Name x pos'] e pos) (dAsg te (dgName i)) := ps_imp (ps_set hN hi hx he hs hf) fun D σ H ⟨B, M, ρ, E0, rel, re, h, c⟩ => by
  refine ⟨B, M, ρ, _, rel, re, h, fun x M1 v B1 H1 q s r => ?_⟩
  exact c.nx _ M1 _ B1 H1 q s ((re.mono s.same).set r i)
/-- a, b = x, y: no tuple is made -/
def dPar (i j : Nat) (ta : TDA) : TDS := fun E ρ M => ta ρ M fun ds M1 => ∃ v w, ds = [v, w] ∧ E.nx ((ρ.set i (some v)).set j (some w)) M1
theorem ds_par {i j : Nat} {x y : Str} {a b : Expr} {ta : TDA} {px py pt : Pos} {kt k2 pt2} (hc : X.calm = true) (hN : X.N.Nodup) (hi : X.N[i]? = some x) (hj : X.N[j]? = some y) (hij : i ≠ j)
    (hx : X.env.scope.names.lookup x = some .local) (hy : X.env.scope.names.lookup y = some .local) (ha : DA X [a, b] ta)
    (hw : swappedStores [.Tuple [.Name x px, .Name y py] kt pt] (.Tuple [a, b] k2 pt2) X.env = pure (some [x, y]) := by rfl)
    (hs : swapsWithSole [.Tuple [.Name x px, .Name y py] kt pt] (.Tuple [a, b] k2 pt2) pos.line X.env = pure false := by rfl) :
    DS X (.Assign [.Tuple [.Name x px, .Name y py] kt pt] (.Tuple [a, b] k2 pt2) pos) (dPar i j ta) := ps_imp (ps_par hc hN hi hj hij hx hy ha hw hs) fun D σ H ⟨B, M, ρ, E0, rel, re, h, c⟩ => by
  refine ⟨B, M, ρ, _, rel, re, h, ?_⟩
  rintro ds M1 vs B1 H1 ⟨v, w, rfl, q⟩ s r
  obtain ⟨v', w', rfl, r1, r2⟩ := rv_two r
  exact ⟨v', w', rfl, c.nx _ M1 _ B1 H1 q s (((re.mono s.same).set r1 i).set r2 j)⟩
def upIp (K : Kw) (r : RD2) : V → V → Hp → VK → Prop := upR2 K r
def dAug (i : Nat) (te : TDE) (r : RD2) : TDS := fun E ρ M => ∃ x, ρ[i]? = some (some x) ∧ te ρ M fun y M1 => r x y M1 fun z M2 => E.nx (ρ.set i (some z)) M2
theorem ds_aug {i : Nat} {x : Str} {op : Operator} {r : RD2} {pos' : Pos} (hN : X.N.Nodup) (hi : X.N[i]? = some x) (hx : Loc X.env.scope x) (he : DE X e te) (ho : PIp X op (upR2 (kw X) r)) (hf : X.fn x = true ∨ X.env.scope.names.lookup x = some .local := by first | exact .inl rfl | exact .inr rfl | assumption) :
    DS X (.AugAssign (.Name x pos') op e pos) (dAug i te r) := ps_imp (ps_aug hN hi hx he ho hf) fun D σ H ⟨B, M, ρ, E0, rel, re, ⟨x, e1, h⟩, c⟩ => by
  obtain ⟨v, ev, rv⟩ := re.get i x e1
  refine ⟨v, ev, B, M, ρ, _, rel, re, h, fun y M1 u B1 H1 q s r1 => ?_⟩
  refine ⟨B1, M1, x, y, _, s.to, rv.mono s.same, r1, q, fun z M2 w B2 H2 q2 s2 r2 => ?_⟩
  have st := s.trans s2
  exact c.nx _ M2 _ B2 H2 q2 st ((re.mono st.same).set r2 i)
theorem ipd_int {op : Operator} {f : Int → Int → Int} (h : PIp X op (ipI f)) : PIp X op (upR2 (kw X) (rIntD CT fun i j => .int (f i j))) := by
  intro pins s σ H x y v u Q I rx ry ⟨B, M, d, e, Q0, rel, r1, r2, ⟨i, j, e1, e2, _, q⟩, k⟩
  subst e1
  subst e2
  obtain rfl := rv_int r1
  obtain rfl := rv_int r2
  exact h pins s σ H _ _ v u Q I rx ry ⟨i, j, rfl, rfl, k _ M _ B H q (.refl rel) (.d (.int _))⟩
theorem ipd_add : PIp X .Add (upR2 (kw X) (rIntD CT fun i j => .int (i + j))) := ipd_int ip_add
theorem ipd_sub : PIp X .Sub (upR2 (kw X) (rIntD CT fun i j => .int (i - j))) := ipd_int ip_sub
end

/-! ### what is walked -/
abbrev TDI := DSt → DM → (List DV → (DM → Prop) → DM → Prop) → Prop
/-- what is locked stays so -/
def Frz (H H' : Hp) : Prop := ∀ a o u, H a = some (.frz o u) → H' a = some (.frz o u)
structure ItOk (K : Kw) (B H : Hp) (xs : List DV) (S : DM → Prop) (J : It) : Prop where
  go : ∀ B' M' H' (i : Nat), Same B B' → Frz H H' → Rel K B' M' H' → S M' → i < xs.length → J.go i H' ∧ ∀ x H'', J.yld i H' x H'' → ∃ B'' d, xs[i]? = some d ∧ Step K B' M' H' B'' M' H'' ∧ RV K B'' x d
  stop : ∀ B' M' H' (i : Nat), Same B B' → Frz H H' → Rel K B' M' H' → S M' → xs.length ≤ i → J.stop i H'
theorem ItOk.mono {K : Kw} {B B' H H' : Hp} {xs : List DV} {S : DM → Prop} {J : It} (h : ItOk K B H xs S J) (s : Same B B') (f : Frz H H') : ItOk K B' H' xs S J :=
  ⟨fun B2 M2 H2 i s2 f2 => h.go B2 M2 H2 i (s.trans s2) fun a o u e => f2 a o u (f a o u e), fun B2 M2 H2 i s2 f2 => h.stop B2 M2 H2 i (s.trans s2) fun a o u e => f2 a o u (f a o u e)⟩
def upI (K : Kw) (t : TDI) : TI := fun σ H R => ∃ B M ρ Q0, Rel K B M H ∧ RE K B σ ρ ∧ t ρ M Q0 ∧ ∀ xs S M' B' H' J, Q0 xs S M' → Step K B M H B' M' H' → ItOk K B' H' xs S J → R J H'
abbrev DI (X : Cx) (tg iter : Expr) (t : TDI) : Prop := PI X tg iter (upI (kw X) t)
theorem pi_imp {X : Cx} {tg e : Expr} {t t' : TI} (h : PI X tg e t) (i : ∀ σ H Q, t' σ H Q → t σ H Q) : PI X tg e t' := ⟨fun pins s σ H Q I w => h.run pins s σ H Q I (i σ H Q w)⟩
section
variable {X : Cx} {tg l : Expr} {tl : TDE} {ta : TDA} {pos p : Pos}
/-- a list; S: it stays as it is -/
def dIterL (tl : TDE) : TDI := fun ρ M Q => tl ρ M fun x M1 => ∃ xs, listOf M1 x = some xs ∧ Q xs (fun M' => listOf M' x = some xs) M1
theorem it_list {K : Kw} {B H : Hp} {a : Addr} {x : DV} {xs : List DV} (r : RV K B (.ref a) x) : ItOk K B H xs (fun M' => listOf M' x = some xs) (Itl K.K a) := by
  refine ⟨fun B' M' H' i s _ rel e hi => ?_, fun B' M' H' i s _ rel e hi => ?_⟩
  · obtain ⟨a', vs, e1, s1, w1⟩ := rv_list rel (r.mono s) e
    cases e1
    have hv : i < vs.length := by rw [w1.length]; exact hi
    refine ⟨⟨vs, vs[i], s1, by simp [hv]⟩, fun v H'' ⟨e2, y⟩ => ?_⟩
    subst e2
    obtain ⟨d, ed, rd⟩ := w1.getV (y vs s1)
    exact ⟨B', d, ed, .refl rel, rd⟩
  · obtain ⟨a', vs, e1, s1, w1⟩ := rv_list rel (r.mono s) e
    cases e1
    exact ⟨vs, s1, by rw [w1.length]; exact hi⟩
theorem di_list (hl : DE X l tl) : DI X tg l (dIterL tl) := pi_imp (pi_list hl) fun σ H R ⟨B, M, ρ, Q0, rel, re, h, k⟩ => by
  refine ⟨B, M, ρ, _, rel, re, h, ?_⟩
  rintro x M1 v B1 H1 ⟨xs, e, q⟩ s r
  obtain ⟨a, vs, rfl, s1, w1⟩ := rv_list s.to r e
  exact ⟨a, rfl, ⟨vs, s1⟩, k xs _ M1 B1 H1 _ q s (it_list r)⟩
/-- a tuple -/
def dIterT (tl : TDE) : TDI := fun ρ M Q => tl ρ M fun x M1 => ∃ xs, tupOf x = some xs ∧ Q xs (fun _ => True) M1
theorem it_tup {K : Kw} {B H : Hp} {a : Addr} {x : DV} {xs : List DV} (r : RV K B (.ref a) x) (e : tupOf x = some xs) : ItOk K B H xs (fun _ => True) (Itt K.K a) := by
  refine ⟨fun B' M' H' i s _ rel _ hi => ?_, fun B' M' H' i s _ rel _ hi => ?_⟩
  · obtain ⟨a', vs, e1, s1, w1⟩ := rv_tup rel (r.mono s) e
    cases e1
    have hv : i < vs.length := by rw [w1.length]; exact hi
    refine ⟨⟨vs, vs[i], s1, by simp [hv]⟩, fun v H'' ⟨e2, y⟩ => ?_⟩
    subst e2
    obtain ⟨d, ed, rd⟩ := w1.getV (y vs s1)
    exact ⟨B', d, ed, .refl rel, rd⟩
  · obtain ⟨a', vs, e1, s1, w1⟩ := rv_tup rel (r.mono s) e
    cases e1
    exact ⟨vs, s1, by rw [w1.length]; exact hi⟩
theorem di_tup (hl : DE X l tl) : DI X tg l (dIterT tl) := pi_imp (pi_tup hl) fun σ H R ⟨B, M, ρ, Q0, rel, re, h, k⟩ => by
  refine ⟨B, M, ρ, _, rel, re, h, ?_⟩
  rintro x M1 v B1 H1 ⟨xs, e, q⟩ s r
  obtain ⟨a, vs, rfl, s1, w1⟩ := rv_tup s.to r e
  exact ⟨a, rfl, ⟨vs, s1⟩, k xs _ M1 B1 H1 _ q s (it_tup r e)⟩
/-- range(n), range(a, b) -/
def rng (lo : Int) (n : Nat) : List DV := (List.range n).map fun i => DV.d (.int (lo + (i : Nat)))
theorem rng_get {lo : Int} {n i : Nat} (h : i < n) : (rng lo n)[i]? = some (.d (.int (lo + (i : Nat)))) := by
  unfold rng
  rw [List.getElem?_map, List.getElem?_range h]
  rfl
theorem it_rng {K : Kw} {B H : Hp} (lo : Int) (n : Nat) : ItOk K B H (rng lo n) (fun _ => True) (Itr lo n) := by
  have hn : (rng lo n).length = n := by unfold rng; simp
  refine ⟨fun B' M' H' i s _ rel _ hi => ?_, fun B' M' H' i s _ rel _ hi => ?_⟩
  · rw [hn] at hi
    refine ⟨hi, fun v H'' ⟨e2, y⟩ => ?_⟩
    subst e2
    subst y
    exact ⟨B', _, rng_get hi, .refl rel, .d (.int _)⟩
  · rw [hn] at hi
    exact hi
def dRng1 (ta : TDA) : TDI := fun ρ M Q => ta ρ M fun ds M1 => ∃ j : Int, ds = [.d (.int j)] ∧ -(2 ^ 62) ≤ j ∧ j < 2 ^ 62 ∧ Q (rng 0 j.toNat) (fun _ => True) M1
theorem di_range1 {a : Expr} (hg : Gl X "range") (hm : X.mg "range" = none) (ha : DA X [a] ta) (hs : starEach [a] X.env = [(false, eval a X.env)] := by rfl) : DI X tg (.Call (.Name "range" p) [a] [] pos) (dRng1 ta) := pi_imp (pi_range1 hg hm ha hs) fun σ H R ⟨B, M, ρ, Q0, rel, re, h, k⟩ => by
  refine ⟨B, M, ρ, _, rel, re, h, ?_⟩
  rintro ds M1 vs B1 H1 ⟨j, rfl, h1, h2, q⟩ s r
  obtain ⟨v, rfl, r'⟩ := rv_one r
  obtain rfl := rv_int r'
  exact ⟨j, rfl, h1, h2, k _ _ M1 B1 H1 _ q s (it_rng _ _)⟩
def dRng2 (ta : TDA) : TDI := fun ρ M Q => ta ρ M fun ds M1 => ∃ i j : Int, ds = [.d (.int i), .d (.int j)] ∧ (-(2 ^ 62) ≤ i ∧ i < 2 ^ 62 ∧ -(2 ^ 62) ≤ j ∧ j < 2 ^ 62) ∧ Q (rng i (j - i).toNat) (fun _ => True) M1
theorem di_range2 {a b : Expr} (hg : Gl X "range") (hm : X.mg "range" = none) (ha : DA X [a, b] ta) (hs : starEach [a, b] X.env = [(false, eval a X.env), (false, eval b X.env)] := by rfl) (hs2 : starEach [b] X.env = [(false, eval b X.env)] := by rfl) :
    DI X tg (.Call (.Name "range" p) [a, b] [] pos) (dRng2 ta) := pi_imp (pi_range2 hg hm ha hs hs2) fun σ H R ⟨B, M, ρ, Q0, rel, re, h, k⟩ => by
  refine ⟨B, M, ρ, _, rel, re, h, ?_⟩
  rintro ds M1 vs B1 H1 ⟨i, j, rfl, hb, q⟩ s r
  obtain ⟨v, u, rfl, r1, r2⟩ := rv_two r
  obtain rfl := rv_int r1
  obtain rfl := rv_int r2
  exact ⟨i, j, rfl, hb, k _ _ M1 B1 H1 _ q s (it_rng _ _)⟩
/-- enumerate(list) -/
def enumD (xs : List DV) : List DV := (List.range xs.length).map fun i => mkTup [.d (.int (i : Nat)), (xs[i]?).getD (.d .none)]
theorem enumD_get {xs : List DV} {i : Nat} {d : DV} (h : xs[i]? = some d) : (enumD xs)[i]? = some (mkTup [.d (.int (i : Nat)), d]) := by
  have hl : i < xs.length := (List.getElem?_eq_some_iff.mp h).1
  unfold enumD
  rw [List.getElem?_map, List.getElem?_range hl]
  simp [h]
theorem enumD_len (xs : List DV) : (enumD xs).length = xs.length := by unfold enumD; simp
/-- a new pair -/
theorem pair_new {K : Kw} {B : Hp} {M : DM} {H : Hp} (rel : Rel K B M H) {T : Addr} (hT : H T = none) {v u : V} {d e : DV} (r1 : RV K B v d) (r2 : RV K B u e) : Step K B M H (upd B T (.tup [v, u])) M (upd H T (.tup [v, u])) ∧ RV K (upd B T (.tup [v, u])) (.ref T) (mkTup [d, e]) := by
  have st := Step.newB rel hT (.tup [v, u])
  exact ⟨st, RV.mkTup (.of upd_same) (.cons (r1.mono st.same) (.cons (r2.mono st.same) .nil))⟩
theorem it_enum {K : Kw} {B H : Hp} {a : Addr} {x : DV} {xs : List DV} (r : RV K B (.ref a) x) : ItOk K B H (enumD xs) (fun M' => listOf M' x = some xs) (Ite K.K a) := by
  refine ⟨fun B' M' H' i s _ rel e hi => ?_, fun B' M' H' i s _ rel e hi => ?_⟩
  · rw [enumD_len] at hi
    obtain ⟨a', vs, e1, s1, w1⟩ := rv_list rel (r.mono s) e
    cases e1
    have hv : i < vs.length := by rw [w1.length]; exact hi
    refine ⟨⟨vs, vs[i], s1, by simp [hv]⟩, fun v H'' ⟨T, y, e2, hT, e3, hy⟩ => ?_⟩
    subst e2
    subst e3
    obtain ⟨d, ed, rd⟩ := w1.getV (hy vs s1)
    obtain ⟨st, rp⟩ := pair_new rel hT (RV.d (DD.int ((i : Nat) : Int))) rd
    exact ⟨_, _, enumD_get ed, st, rp⟩
  · rw [enumD_len] at hi
    obtain ⟨a', vs, e1, s1, w1⟩ := rv_list rel (r.mono s) e
    cases e1
    exact ⟨vs, s1, by rw [w1.length]; exact hi⟩
def dEnumL (ta : TDA) : TDI := fun ρ M Q => ta ρ M fun ds M1 => ∃ x xs, ds = [x] ∧ listOf M1 x = some xs ∧ Q (enumD xs) (fun M' => listOf M' x = some xs) M1
theorem di_enum {elts : List Expr} {kk : Nat} {tpos : Pos} (hg : Gl X "enumerate") (hm : X.mg "enumerate" = none) (ha : DA X [l] ta) (hs : starEach [l] X.env = [(false, eval l X.env)] := by rfl) :
    DI X (.Tuple elts kk tpos) (.Call (.Name "enumerate" p) [l] [] pos) (dEnumL ta) := pi_imp (pi_enum hg hm ha hs) fun σ H R ⟨B, M, ρ, Q0, rel, re, h, k⟩ => by
  refine ⟨B, M, ρ, _, rel, re, h, ?_⟩
  rintro ds M1 vs B1 H1 ⟨x, xs, rfl, e, q⟩ s r
  obtain ⟨v, rfl, r'⟩ := rv_one r
  obtain ⟨a, vs, rfl, s1, w1⟩ := rv_list s.to r' e
  exact ⟨a, vs, rfl, s1, k _ _ M1 B1 H1 _ q s (it_enum r')⟩
/-- zip of two lists, of two tuples -/
def zipD (xs ys : List DV) : List DV := List.zipWith (fun a b => mkTup [a, b]) xs ys
theorem zipD_get {xs ys : List DV} {i : Nat} {d e : DV} (h1 : xs[i]? = some d) (h2 : ys[i]? = some e) : (zipD xs ys)[i]? = some (mkTup [d, e]) := by
  unfold zipD
  rw [List.getElem?_zipWith, h1, h2]
theorem zipD_len (xs ys : List DV) : (zipD xs ys).length = min xs.length ys.length := by unfold zipD; simp
theorem it_zipL {K : Kw} {B H : Hp} {a b : Addr} {x y : DV} {xs ys : List DV} (r1 : RV K B (.ref a) x) (r2 : RV K B (.ref b) y) : ItOk K B H (zipD xs ys) (fun M' => listOf M' x = some xs ∧ listOf M' y = some ys) (Itz K.K a b) := by
  refine ⟨fun B' M' H' i s _ rel ⟨e, e'⟩ hi => ?_, fun B' M' H' i s _ rel ⟨e, e'⟩ hi => ?_⟩
  · rw [zipD_len] at hi
    obtain ⟨a', vs, e1, s1, w1⟩ := rv_list rel (r1.mono s) e
    cases e1
    obtain ⟨b', us, e2, s2, w2⟩ := rv_list rel (r2.mono s) e'
    cases e2
    have hv : i < vs.length := by rw [w1.length]; omega
    have hu : i < us.length := by rw [w2.length]; omega
    refine ⟨⟨vs, us, vs[i], us[i], s1, s2, by simp [hv], by simp [hu]⟩, fun v H'' ⟨T, y1, y2, e3, hT, e4, h1, h2⟩ => ?_⟩
    subst e3
    subst e4
    obtain ⟨d, ed, rd⟩ := w1.getV (h1 vs s1)
    obtain ⟨d', ed', rd'⟩ := w2.getV (h2 us s2)
    obtain ⟨st, rp⟩ := pair_new rel hT rd rd'
    exact ⟨_, _, zipD_get ed ed', st, rp⟩
  · rw [zipD_len] at hi
    obtain ⟨a', vs, e1, s1, w1⟩ := rv_list rel (r1.mono s) e
    cases e1
    obtain ⟨b', us, e2, s2, w2⟩ := rv_list rel (r2.mono s) e'
    cases e2
    exact ⟨vs, us, s1, s2, by rw [w1.length, w2.length]; omega⟩
theorem it_zipT {K : Kw} {B H : Hp} {a b : Addr} {x y : DV} {xs ys : List DV} (r1 : RV K B (.ref a) x) (r2 : RV K B (.ref b) y) (e : tupOf x = some xs) (e' : tupOf y = some ys) : ItOk K B H (zipD xs ys) (fun _ => True) (RZ.ItzT K.K a b) := by
  refine ⟨fun B' M' H' i s _ rel _ hi => ?_, fun B' M' H' i s _ rel _ hi => ?_⟩
  · rw [zipD_len] at hi
    obtain ⟨a', vs, e1, s1, w1⟩ := rv_tup rel (r1.mono s) e
    cases e1
    obtain ⟨b', us, e2, s2, w2⟩ := rv_tup rel (r2.mono s) e'
    cases e2
    have hv : i < vs.length := by rw [w1.length]; omega
    have hu : i < us.length := by rw [w2.length]; omega
    refine ⟨⟨vs, us, vs[i], us[i], s1, s2, by simp [hv], by simp [hu]⟩, fun v H'' ⟨T, y1, y2, e3, hT, e4, h1, h2⟩ => ?_⟩
    subst e3
    subst e4
    obtain ⟨d, ed, rd⟩ := w1.getV (h1 vs s1)
    obtain ⟨d', ed', rd'⟩ := w2.getV (h2 us s2)
    obtain ⟨st, rp⟩ := pair_new rel hT rd rd'
    exact ⟨_, _, zipD_get ed ed', st, rp⟩
  · rw [zipD_len] at hi
    obtain ⟨a', vs, e1, s1, w1⟩ := rv_tup rel (r1.mono s) e
    cases e1
    obtain ⟨b', us, e2, s2, w2⟩ := rv_tup rel (r2.mono s) e'
    cases e2
    exact ⟨vs, us, s1, s2, by rw [w1.length, w2.length]; omega⟩
def dZip (ta : TDA) : TDI := fun ρ M Q => ta ρ M fun ds M1 => ∃ x y, ds = [x, y] ∧ ((∃ xs ys, tupOf x = some xs ∧ tupOf y = some ys ∧ Q (zipD xs ys) (fun _ => True) M1) ∨ ∃ xs ys, listOf M1 x = some xs ∧ listOf M1 y = some ys ∧ Q (zipD xs ys) (fun M' => listOf M' x = some xs ∧ listOf M' y = some ys) M1)
theorem di_zip {e e2 : Expr} {elts : List Expr} {kk : Nat} {tpos : Pos} (hg : Gl X "zip") (hm : X.mg "zip" = none) (ha : DA X [e, e2] ta)
    (h1 : starEach (e :: [e2]) X.env = (false, eval e X.env) :: starEach [e2] X.env := by rfl) (h2 : (backTo pos (starEach [e2] X.env)).any (·.1) = false := by rfl) : DI X (.Tuple elts kk tpos) (.Call (.Name "zip" p) [e, e2] [] pos) (dZip ta) := pi_imp (RZ.pi_zipA hg hm ha h1 h2) fun σ H R ⟨B, M, ρ, Q0, rel, re, h, k⟩ => by
  refine ⟨B, M, ρ, _, rel, re, h, ?_⟩
  rintro ds M1 vs B1 H1 ⟨x, y, rfl, h⟩ s r
  obtain ⟨v, u, rfl, r1, r2⟩ := rv_two r
  rcases h with ⟨xs, ys, e1, e2, q⟩ | ⟨xs, ys, e1, e2, q⟩
  · obtain ⟨a, vs, rfl, s1, w1⟩ := rv_tup s.to r1 e1
    obtain ⟨b, us, rfl, s2, w2⟩ := rv_tup s.to r2 e2
    exact ⟨a, b, vs, us, rfl, .inr ⟨s1, s2, k _ _ M1 B1 H1 _ q s (it_zipT r1 r2 e1 e2)⟩⟩
  · obtain ⟨a, vs, rfl, s1, w1⟩ := rv_list s.to r1 e1
    obtain ⟨b, us, rfl, s2, w2⟩ := rv_list s.to r2 e2
    exact ⟨a, b, vs, us, rfl, .inl ⟨s1, s2, k _ _ M1 B1 H1 _ q s (it_zipL r1 r2)⟩⟩
end

/-! ### for -/
section
variable {X : Cx} {pos : Pos}
def forW (g : TDG) (tb : TDS) (S : DM → Prop) (E : DEnds) : List DV → DSt → DM → Prop
  | [], ρ, M => S M ∧ E.nx ρ M
  | x :: r, ρ, M => S M ∧ g x ρ M fun ρ' M' => tb { E with nx := forW g tb S E r, ct := forW g tb S E r, bk := E.nx } ρ' M'
def dFor (ti : TDI) (g : TDG) (tb : TDS) : TDS := fun E ρ M => ti ρ M fun xs S M1 => forW g tb S E xs ρ M1
theorem ds_for {tg iter : Expr} {body : List Stmt} {ti : TDI} {is : List Nat} {g : TDG} {tb : TDS} (hp : PassesOwn (model X.prog X.w) X.A X.env X.xe) (hc : X.calm = true) (hi : DI X tg iter ti) (hg : DG X tg is g) (hb : DSs X body tb)
    (hs : ∀ x, foldedSetIterable iter X.env x = pure x := by intro _; rfl) : DS X (.For tg iter body [] pos) (dFor ti g tb) := ps_imp (ps_for hp hc hi hg hb hs) fun D σ H ⟨B, M, ρ, E0, rel, re, h, c⟩ => by
  refine ⟨B, M, ρ, _, rel, re, h, fun xs S M1 B1 H1 J q s ok => ?_⟩
  refine ⟨fun i m σ' H' => m = xs.length - i ∧ i ≤ xs.length ∧ ∃ B' M' ρ', Step (kw X) B M H B' M' H' ∧ RE (kw X) B' σ' ρ' ∧ ItOk (kw X) B' H' xs S J ∧ forW g tb S E0 (xs.drop i) ρ' M', ⟨_, rfl, Nat.zero_le _, B1, M1, ρ, s, re.mono s.same, ok, q⟩, ?_⟩
  rintro i m σ' H' ⟨rfl, hi, B', M', ρ', s', re', ok', w⟩
  by_cases hl : i < xs.length
  · have ed : xs.drop i = xs[i] :: xs.drop (i + 1) := by simp
    rw [ed] at w
    obtain ⟨hS, w⟩ := w
    obtain ⟨go, yl⟩ := ok'.go B' M' H' i (Same.refl _) (fun _ _ _ h => h) s'.to hS hl
    refine .inr ⟨go, fun σ2 H2 => ∃ B2 M2 ρ2, Step (kw X) B M H B2 M2 H2 ∧ RE (kw X) B2 σ2 ρ2 ∧ ItOk (kw X) B2 H2 xs S J ∧ forW g tb S E0 (xs.drop (i + 1)) ρ2 M2, fun σ2 H2 h2 => ⟨xs.length - (i + 1), by omega, rfl, hl, h2⟩, fun x H'' y => ?_⟩
    obtain ⟨B'', d, ex, st, rx⟩ := yl x H'' y
    have exd : d = xs[i] := by
      rw [List.getElem?_eq_getElem hl] at ex
      exact (Option.some.inj ex).symm
    subst exd
    refine ⟨B'', M', ρ', xs[i], _, st.to, re'.mono st.same, rx, w, fun ρ3 M3 σ3 B3 H3 q3 s3 re3 _ => ?_⟩
    have sA := (s'.trans st).trans s3
    have okA := ok'.mono (st.trans s3).same (st.trans s3).frz
    refine ⟨B3, M3, ρ3, _, s3.to, re3, q3, ⟨fun ρ4 M4 σ4 B4 H4 q4 s4 r4 => ?_, (c.rt.step sA), fun ρ4 M4 σ4 B4 H4 q4 s4 r4 => ?_, fun ρ4 M4 σ4 B4 H4 q4 s4 r4 => ?_⟩⟩
    · exact ⟨B4, M4, ρ4, sA.trans s4, r4, okA.mono s4.same s4.frz, q4⟩
    · exact c.nx ρ4 M4 σ4 B4 H4 q4 (sA.trans s4) r4
    · exact ⟨B4, M4, ρ4, sA.trans s4, r4, okA.mono s4.same s4.frz, q4⟩
  · have e : i = xs.length := by omega
    subst e
    rw [List.drop_length] at w
    exact .inl ⟨ok'.stop B' M' H' _ (Same.refl _) (fun _ _ _ h => h) s'.to w.1 (Nat.le_refl _), c.nx ρ' M' σ' B' H' w.2 s' re'⟩
end
end DL

set_option Elab.async false
set_option linter.all false
set_option maxRecDepth 100000
set_option maxHeartbeats 4000000
namespace DL
open PySem L2 PyProof.Rows

/-! ### a def's promise where nothing is being shown (no guard of repr stands around) -/
structure FnG (P : Program) (w : World) (K : PySem.W.Frag) (mg : Str → Option Value) (base : Heap) (CT : CXT) (k : Nat) (f : Addr) (fd : FuncData) (ps : List Str) (sp : Sp) : Prop where
  len : ∀ vs H Q E, sp vs H Q E → vs.length = ps.length
  go : ∀ (A : Around) (callers : List Env) (s : Shared) (H : Hp) (given : Args) (us : List Value) (vs : List V) (Q : VK) (E : XK), Room k A → A.guards = some [] → Env0 P w K mg base A callers s H → BindsTo s fd given (ps.zip us) → Vals vs us → sp vs H Q E →
    codeAny (model P w) A (.call (.ref f) given) (CR CT callers P w H s Q E) s
section
variable {P : Program} {w : World} {K : PySem.W.Frag} {mg : Str → Option Value} {base : Heap} {CT : CXT} {j k : Nat} {f : Addr} {fd : FuncData} {ps : List Str} {sp sp' : Sp}
theorem FnG.of (F : FnOk P w K mg base CT k f fd ps sp) : FnG P w K mg base CT k f fd ps sp := ⟨F.len, fun A callers s H given us vs Q E hr _ => F.run A callers s H given us vs Q E hr⟩
theorem FnG.mono (F : FnG P w K mg base CT j f fd ps sp) (h : j ≤ k) : FnG P w K mg base CT k f fd ps sp := ⟨F.len, fun A callers s H given us vs Q E hr => F.go A callers s H given us vs Q E (hr.mono h)⟩
theorem FnG.imp (F : FnG P w K mg base CT k f fd ps sp) (h : ∀ vs H Q E, sp' vs H Q E → sp vs H Q E) : FnG P w K mg base CT k f fd ps sp' :=
  ⟨fun vs H Q E q => F.len vs H Q E (h _ _ _ _ q), fun A callers s H given us vs Q E hr hg he hb hv hs => F.go A callers s H given us vs Q E hr hg he hb hv (h _ _ _ _ hs)⟩
end

/-- what stands at the end of a call, for the caller -/
theorem call_end {X : Cx} {CT : CXT} {E : XK} {pins : List (Addr × Obj)} {σ : L2.St} {H : Hp} {s s' : Shared} {Q : VK} {r : Result} (hx : Passes CT X E) (I : Inv X pins σ H s) (hq : CR CT X.stack X.prog X.w H s Q E r s') :
    match r with | .ok (.ret u) => EP X pins σ Q u s' | .ok _ => False | .error e => X.xe e s' := by
  cases r with
  | error e => exact hx pins σ H s e s' I hq
  | ok fl => cases fl <;> first | exact I.after hq | exact hq
section
variable {X : Cx} {CT : CXT} {k : Nat} {f C : Addr} {fd : FuncData} {ps : List Str} {sp : Sp} {dvs : List V} {dus : List Value} {E : XK} {x m : Str} {p pos apos : Pos} {e o : Expr} {es : List Expr} {to : TE} {ta : TA}
theorem go_fn {pins : List (Addr × Obj)} {σ : L2.St} {H : Hp} {s : Shared} {Q : VK} {us : List Value} {vs : List V} (F : FnG X.prog X.w X.K X.mg X.base CT k f fd ps sp) (hr : Room k X.A) (gd : X.A.guards = some []) (hb : Binds X.K fd ps dus) (hd : Vals dvs dus) (hx : Passes CT X E)
    (I : Inv X pins σ H s) (r : Vals vs us) (h : sp (vs ++ dvs) H Q E) : wpAny (model X.prog X.w) X.A (call (.ref f) us) (EP X pins σ Q) X.xe s := by
  have all : Vals (vs ++ dvs) (us ++ dus) := r.append hd
  have cnt : (us ++ dus).length = ps.length := all.length.symm.trans (F.len _ _ _ _ h)
  refine wpAny_call (codeAny_mono (F.go X.A X.stack s H ⟨us, []⟩ _ _ Q E hr gd I.env0 (hb s us I.kIn cnt) all h) fun r' s' hq => ?_)
  have z := call_end hx I hq
  cases r' with
  | error er => exact z
  | ok fl => cases fl <;> first | exact z | exact z.elim
/-- f(e, ..) -/
theorem ge_call (F : FnG X.prog X.w X.K X.mg X.base CT k f fd ps sp) (hr : Room k X.A) (gd : X.A.guards = some []) (hg : Gl X x) (hm : X.mg x = some (.ref f)) (hk : PySem.W.keepIn X.K (.ref f) = true) (hb : Binds X.K fd ps dus) (hd : Vals dvs dus) (hx : Passes CT X E)
    (ha : PA X (e :: es) ta) (hdb : (x == ("__debug__" : Str)) = false := by decide) (st1 : starEach (e :: es) X.env = (false, eval e X.env) :: starEach es X.env := by rfl) (st2 : (backTo pos (starEach es X.env)).any (·.1) = false := by rfl) :
    PE X (.Call (.Name x p) (e :: es) [] pos) (tCall sp dvs E ta) := ⟨fun pins s σ H Q I h =>
  wpAny_Call_Name_kw (ld_glob I hg hm (PySem.W.callWith_K (h₀ := X.base) I.ok.mod.kin hk (thn (ha.run pos pins s σ H _ I h) fun us s1 ⟨vs, H1, I1, r, q⟩ => ⟨I1.kIn, go_fn F hr gd hb hd hx I1 r q⟩) st1 st2) hdb)⟩
theorem ge_call0 (F : FnG X.prog X.w X.K X.mg X.base CT k f fd ps sp) (hr : Room k X.A) (gd : X.A.guards = some []) (hg : Gl X x) (hm : X.mg x = some (.ref f)) (hk : PySem.W.keepIn X.K (.ref f) = true) (hb : Binds X.K fd ps dus) (hd : Vals dvs dus) (hx : Passes CT X E)
    (hdb : (x == ("__debug__" : Str)) = false := by decide) : PE X (.Call (.Name x p) [] [] pos) (tCall sp dvs E tNil) := ⟨fun pins s σ H Q I h =>
  wpAny_Call_Name_kw (ld_glob I hg hm (PySem.W.callWith_K0 I.kIn hk (go_fn (us := []) F hr gd hb hd hx I .nil h)) hdb)⟩
/-- o.m(e, ..), o.m() -/
theorem ge_meth {pl : Sem Bool} (he : PE X o to) (c : Cls X.K C) (hm : Meth X.K C m f) (F : FnG X.prog X.w X.K X.mg X.base CT k f fd ps sp) (hr : Room k X.A) (gd : X.A.guards = some []) (hb : Binds X.K fd ps dus) (hd : Vals dvs dus) (hx : Passes CT X E) (ha : PA X (e :: es) ta)
    (st1 : starEach (e :: es) X.env = (false, eval e X.env) :: starEach es X.env := by rfl) (st2 : (backTo pos (starEach es X.env)).any (·.1) = false := by rfl)
    (form : eval (.Call (.Attribute o m apos) (e :: es) [] pos) X.env = (do
      let recv ← eval o X.env
      standAt apos.atName
      let (f, first) ← holding [recv] (getMethod recv m pl)
      callWith pos f first (backTo pos (starEach (e :: es) X.env)) (backToKw pos (keywordEach [] X.env))) := by rfl) :
    PE X (.Call (.Attribute o m apos) (e :: es) [] pos) (tMeth C m sp dvs E to ta) := by
  refine ⟨fun pins s σ H Q I h => ?_⟩
  refine PySem.W.methodCall_KW (pl := pl) (thn (he.run pins s σ H _ I h) fun u s1 ⟨x, H1, I1, rx, a, dx, fs, ex, ea, l, q⟩ => ?_) form
  subst ex
  have eu : u = Value.ref a := rx
  subst eu
  exact getmeth_ok I1 ea c hm l (PySem.W.callWith_K (first := [.ref a]) (h₀ := X.base) I.ok.mod.kin hm.kp (thn (ha.run pos pins s1 σ H1 _ I1 q) fun us s2 ⟨vs, H2, I2, r, q2⟩ =>
    ⟨I2.kIn, go_fn (us := .ref a :: us) (vs := .ref a :: vs) F hr gd hb hd hx I2 (.cons rfl r) q2⟩) st1 st2)
theorem ge_meth0 {pl : Sem Bool} (he : PE X o to) (c : Cls X.K C) (hm : Meth X.K C m f) (F : FnG X.prog X.w X.K X.mg X.base CT k f fd ps sp) (hr : Room k X.A) (gd : X.A.guards = some []) (hb : Binds X.K fd ps dus) (hd : Vals dvs dus) (hx : Passes CT X E)
    (form : eval (.Call (.Attribute o m apos) [] [] pos) X.env = (do
      let recv ← eval o X.env
      standAt apos.atName
      let (f, first) ← holding [recv] (getMethod recv m pl)
      callWith pos f first (backTo pos (starEach [] X.env)) (backToKw pos (keywordEach [] X.env))) := by rfl) :
    PE X (.Call (.Attribute o m apos) [] [] pos) (tMeth C m sp dvs E to tNil) := by
  refine ⟨fun pins s σ H Q I h => ?_⟩
  refine PySem.W.methodCall_KW (pl := pl) (thn (he.run pins s σ H _ I h) fun u s1 ⟨x, H1, I1, rx, a, dx, fs, ex, ea, l, q⟩ => ?_) form
  subst ex
  have eu : u = Value.ref a := rx
  subst eu
  exact getmeth_ok I1 ea c hm l (PySem.W.callWith_K0 (first := [.ref a]) I1.kIn hm.kp (go_fn (us := [.ref a]) (vs := [.ref a]) F hr gd hb hd hx I1 (.cons rfl .nil) q))
end
/-- THE RULE for a def -/
theorem fng_of {CT : CXT} {P : Program} {w : World} {K : PySem.W.Frag} {mg : Str → Option Value} {base : Heap} {k : Nat} {f : Addr} {name qual : Str} {params : Arguments} {body : List Stmt} {scope : Scope} {dV kV doc pm cdv ct oc : Value} {an od : Option Addr}
    {osl : Array (Option Value)} {N ps : List Str} {sp : Sp} (lk : K.lookup f = some ⟨oc, od, .func (PySem.W.fnOf name qual params body scope dV kV doc pm an cdv ct), osl⟩) (hcd : PySem.W.codeIn K cdv qual = true) (S : FnScope N ps scope)
    (len : ∀ vs H Q E, sp vs H Q E → vs.length = ps.length)
    (hbody : ∀ (A : Around) (callers : List Env) (s : Shared) (H : Hp) (vs : List V) (Q : VK) (E : XK), Room k (A.deeper (envOfC qual scope s.heap.objs.size f cdv)) → (A.deeper (envOfC qual scope s.heap.objs.size f cdv)).guards = some [] → sp vs H Q E →
      ∃ t, PSs (cxOf CT P w K mg base N qual scope f cdv A callers s H E) body t ∧ t { nx := fun _ H' => Q .non H', rt := Q } (L2.start N vs) H) :
    FnG P w K mg base CT (k + 1) f (PySem.W.fnOf name qual params body scope dV kV doc pm an cdv ct) ps sp := by
  refine ⟨len, fun A callers s H given us vs Q E hr gd e0 hb r hsp => ?_⟩
  have cnt := len _ _ _ _ hsp
  have old : ∀ b o, base.get? b = some o → s.heap.get? b = some o := fun b o e => (e0.bs b o e).1
  have kin : K.In s.heap := e0.mod.kin.keeps old
  refine codeAny_call_function hr.depth (kin _ _ lk) rfl S.co S.gen rfl (PySem.W.codeRec_of kin hcd) (hb _ _ _ _ ?_)
  refine wpAny_newFunctionEnv_cells S.kind (fun y hy => ?_) fun env he s1 x => ?_
  · rcases S.par y.1 (List.of_mem_zip (show (y.1, y.2) ∈ ps.zip us from hy)).1 with q | q
    · exact .inl q
    · exact .inr ⟨q, PySem.W.cellsFrom_some _ _ _ (.inl q)⟩
  · subst he
    refine ⟨(e0.mod.nolimit.keeps old).keeps x.toInCall.keep, codeAny_func ?_⟩
    obtain ⟨t, ht, hq⟩ := hbody A callers s H vs Q E (hr.deeper _) gd hsp
    have I := inv_start (CX := CT) (E := E) S hr.hd e0 cnt r x
    refine wpAny_mono (ht.run [] s1 (L2.start N vs) H _ I hq) (fun fl s' hs => ?_) fun _ _ hs => hs
    cases fl with
    | ret u =>
      obtain ⟨v, σ', H', J, rv, q⟩ := hs
      exact ⟨v, H', J.os, J.bare, J.base, J.hok, rv, q⟩
    | next =>
      obtain ⟨σ', H', J, q⟩ := hs
      exact ⟨V.non, H', J.os, J.bare, J.base, J.hok, rfl, q⟩
    | brk => exact hs.elim fun _ ⟨_, _, q⟩ => False.elim q
    | cont => exact hs.elim fun _ ⟨_, _, q⟩ => False.elim q

/-! ### promises at the level of data -/
abbrev DSp := List DV → DM → DK → Prop
def upSp (K : Kw) (sp : DSp) : Sp := fun vs H Q _ => ∃ B M ds Q0, Rel K B M H ∧ RVs K B vs ds ∧ sp ds M Q0 ∧ KV1 K B M H Q0 Q
abbrev DFn (P : Program) (w : World) (K : PySem.W.Frag) (mg : Str → Option Value) (base : Heap) (k : Nat) (f : Addr) (fd : FuncData) (ps : List Str) (sp : DSp) : Prop := FnG P w K mg base CX0 k f fd ps (upSp ⟨K, P, w⟩ sp)
section
variable {X : Cx} {k : Nat} {f C : Addr} {fd : FuncData} {ps : List Str} {sp : DSp} {dxs : List PyData} {dvs : List V} {dus : List Value} {x m : Str} {p pos apos : Pos} {e o : Expr} {es : List Expr} {to : TDE} {t : TDA}
def dCall (sp : DSp) (dxs : List PyData) (t : TDA) : TDE := fun ρ M Q => t ρ M fun ds M1 => sp (ds ++ dxs.map DV.d) M1 Q
theorem de_call (F : DFn X.prog X.w X.K X.mg X.base k f fd ps sp) (hr : Room k X.A) (gd : X.A.guards = some []) (hg : Gl X x) (hm : X.mg x = some (.ref f)) (hk : PySem.W.keepIn X.K (.ref f) = true) (hb : Binds X.K fd ps dus) (hd : Vals dvs dus) (hdd : ∀ B, DDs (kw X) B dvs dxs)
    (ha : DA X (e :: es) t) (hdb : (x == ("__debug__" : Str)) = false := by decide) (st1 : starEach (e :: es) X.env = (false, eval e X.env) :: starEach es X.env := by rfl) (st2 : (backTo pos (starEach es X.env)).any (·.1) = false := by rfl) :
    DE X (.Call (.Name x p) (e :: es) [] pos) (dCall sp dxs t) := pe_imp (ge_call F hr gd hg hm hk hb hd pass0 ha hdb st1 st2) fun σ H Q ⟨B, M, ρ, Q0, rel, re, h, k⟩ => by
  refine ⟨B, M, ρ, _, rel, re, h, fun ds M1 vs B1 H1 q s r => ?_⟩
  exact ⟨B1, M1, _, Q0, s.to, r.append (RVs.ofDp (hdd B1)), q, k.step s⟩
theorem de_call0 (F : DFn X.prog X.w X.K X.mg X.base k f fd ps sp) (hr : Room k X.A) (gd : X.A.guards = some []) (hg : Gl X x) (hm : X.mg x = some (.ref f)) (hk : PySem.W.keepIn X.K (.ref f) = true) (hb : Binds X.K fd ps dus) (hd : Vals dvs dus) (hdd : ∀ B, DDs (kw X) B dvs dxs)
    (hdb : (x == ("__debug__" : Str)) = false := by decide) : DE X (.Call (.Name x p) [] [] pos) (dCall sp dxs dNil) := pe_imp (ge_call0 F hr gd hg hm hk hb hd pass0 hdb) fun σ H Q ⟨B, M, ρ, Q0, rel, re, h, k⟩ =>
  ⟨B, M, _, Q0, rel, (RVs.ofDp (hdd B)), h, k⟩
/-- o.m(..), o an instance of the class at C -/
def dMeth (C : Addr) (m : Str) (sp : DSp) (dxs : List PyData) (to : TDE) (t : TDA) : TDE := fun ρ M Q => to ρ M fun x M1 => ∃ a dx fs, x = .ref a ∧ M1 a = some (.ins C dx fs) ∧ fs.lookup m = none ∧
  t ρ M1 fun ds M2 => sp (.ref a :: (ds ++ dxs.map DV.d)) M2 Q
theorem de_meth {pl : Sem Bool} (he : DE X o to) (c : Cls X.K C) (hm : Meth X.K C m f) (F : DFn X.prog X.w X.K X.mg X.base k f fd ps sp) (hr : Room k X.A) (gd : X.A.guards = some []) (hb : Binds X.K fd ps dus) (hd : Vals dvs dus) (hdd : ∀ B, DDs (kw X) B dvs dxs) (ha : DA X (e :: es) t)
    (st1 : starEach (e :: es) X.env = (false, eval e X.env) :: starEach es X.env := by rfl) (st2 : (backTo pos (starEach es X.env)).any (·.1) = false := by rfl)
    (form : eval (.Call (.Attribute o m apos) (e :: es) [] pos) X.env = (do
      let recv ← eval o X.env
      standAt apos.atName
      let (f, first) ← holding [recv] (getMethod recv m pl)
      callWith pos f first (backTo pos (starEach (e :: es) X.env)) (backToKw pos (keywordEach [] X.env))) := by rfl) :
    DE X (.Call (.Attribute o m apos) (e :: es) [] pos) (dMeth C m sp dxs to t) := pe_imp (ge_meth he c hm F hr gd hb hd pass0 ha st1 st2 form) fun σ H Q ⟨B, M, ρ, Q0, rel, re, h, k⟩ => by
  refine ⟨B, M, ρ, _, rel, re, h, ?_⟩
  rintro x M1 v B1 H1 ⟨a, dx, fs, rfl, e1, e2, q⟩ s r
  obtain rfl := rv_ref r
  obtain ⟨h0, hh, ro⟩ := s.to.get e1
  obtain ⟨fv, rfl, rk⟩ := ro.ins
  refine ⟨a, dx, fv, rfl, hh, rk.lookup_none e2, B1, M1, ρ, _, s.to, re.mono s.same, q, fun ds M2 vs B2 H2 q2 s2 r2 => ?_⟩
  exact ⟨B2, M2, _, Q0, s2.to, .cons (.ref a) (r2.append (RVs.ofDp (hdd B2))), q2, (k.step s).step s2⟩
theorem de_meth0 {pl : Sem Bool} (he : DE X o to) (c : Cls X.K C) (hm : Meth X.K C m f) (F : DFn X.prog X.w X.K X.mg X.base k f fd ps sp) (hr : Room k X.A) (gd : X.A.guards = some []) (hb : Binds X.K fd ps dus) (hd : Vals dvs dus) (hdd : ∀ B, DDs (kw X) B dvs dxs)
    (form : eval (.Call (.Attribute o m apos) [] [] pos) X.env = (do
      let recv ← eval o X.env
      standAt apos.atName
      let (f, first) ← holding [recv] (getMethod recv m pl)
      callWith pos f first (backTo pos (starEach [] X.env)) (backToKw pos (keywordEach [] X.env))) := by rfl) :
    DE X (.Call (.Attribute o m apos) [] [] pos) (dMeth C m sp dxs to dNil) := pe_imp (ge_meth0 he c hm F hr gd hb hd pass0 form) fun σ H Q ⟨B, M, ρ, Q0, rel, re, h, k⟩ => by
  refine ⟨B, M, ρ, _, rel, re, h, ?_⟩
  rintro x M1 v B1 H1 ⟨a, dx, fs, rfl, e1, e2, q⟩ s r
  obtain rfl := rv_ref r
  obtain ⟨h0, hh, ro⟩ := s.to.get e1
  obtain ⟨fv, rfl, rk⟩ := ro.ins
  exact ⟨a, dx, fv, rfl, hh, rk.lookup_none e2, B1, M1, _, Q0, s.to, .cons (.ref a) (RVs.ofDp (hdd B1)), q, k.step s⟩
end
/-- the slots at the entry -/
def dstart (N : List Str) (ds : List DV) : DSt := ds.map some ++ List.replicate (N.length - ds.length) none
theorem RE.start {K : Kw} {B : Hp} {N : List Str} {vs : List V} {ds : List DV} (r : RVs K B vs ds) : RE K B (L2.start N vs) (dstart N ds) := by
  have hl := r.length
  refine ⟨by unfold L2.start dstart; simp [hl], fun i d e => ?_⟩
  unfold dstart at e
  have hi : i < ds.length := by
    by_cases h : i < ds.length
    · exact h
    · rw [List.getElem?_append_right (by simpa using h), List.getElem?_replicate] at e
      split at e <;> cases e
  rw [List.getElem?_append_left (by simpa using hi), List.getElem?_map] at e
  cases q : ds[i]? with
  | none => rw [q] at e; cases e
  | some d' =>
    rw [q] at e
    cases e
    obtain ⟨v, hv, rv⟩ := r.get q
    refine ⟨v, ?_, rv⟩
    unfold L2.start
    rw [List.getElem?_append_left (by rw [List.length_map, hl]; exact hi), List.getElem?_map, hv]
    rfl
theorem upSp_len {K : Kw} {sp : DSp} {n : Nat} (len : ∀ ds M Q, sp ds M Q → ds.length = n) : ∀ vs H Q E, upSp K sp vs H Q E → vs.length = n := fun vs H Q E ⟨B, M, ds, Q0, rel, r, h, _⟩ => r.length.trans (len ds M Q0 h)
section
variable {P : Program} {w : World} {K : PySem.W.Frag} {mg : Str → Option Value} {base : Heap}
/-- a def by its body: the body's reading at the parameters' values gives the promise -/
theorem dfn_ok {x qual : Str} {st : Stmt} {f : Addr} {fd : FuncData} {N ps : List Str} {k : Nat} {sp : DSp} (F : Fun K x qual st f fd) (S : FnScope N ps (defScope st)) (len : ∀ ds M Q, sp ds M Q → ds.length = ps.length)
    (hbody : ∀ (cdv : Value) (A : Around) (callers : List Env) (s : Shared) (H : Hp) (E : XK), Room k (A.deeper (envOfC qual (defScope st) s.heap.objs.size f cdv)) → (A.deeper (envOfC qual (defScope st) s.heap.objs.size f cdv)).guards = some [] →
      ∃ t : TDS, DSs (cxOf CX0 P w K mg base N qual (defScope st) f cdv A callers s H E).nox (defBody st) t ∧ ∀ ds M Q, sp ds M Q → t { nx := fun _ M' => Q (.d .none) M', rt := Q } (dstart N ds) M) : DFn P w K mg base (k + 1) f fd ps sp := by
  obtain ⟨oc, od, kV, doc, pm, an, cdv, ct, osl, rfl, lk, hcd⟩ := F.ex
  refine fng_of lk hcd S (upSp_len len) fun A callers s H vs Q E hr gd ⟨B, M, ds, Q0, rel, rv, h, cov⟩ => ?_
  obtain ⟨t, ht, hq⟩ := hbody cdv A callers s H E hr gd
  exact ⟨_, ht.nox, B, M, _, _, rel, RE.start rv, hq ds M Q0 h, ⟨fun ρ' M' σ' B' H' q st re => cov _ M' _ B' H' q st (.d .non), cov, fun _ _ _ _ _ q => q.elim, fun _ _ _ _ _ q => q.elim⟩⟩
end

/-! ### while -/
section
variable {X : Cx} {pos : Pos}
def dWhile (c : TDT) (tb : TDS) : TDS := fun E ρ M => ∃ W : Nat → DSt → DM → Prop, (∃ m, W m ρ M) ∧ ∀ m ρ M, W m ρ M → c ρ M fun b M1 => if b = true then tb { E with nx := fun ρ' M' => ∃ m', m' < m ∧ W m' ρ' M', ct := fun ρ' M' => ∃ m', m' < m ∧ W m' ρ' M', bk := E.nx } ρ M1 else E.nx ρ M1
theorem ds_while {c : Expr} {body : List Stmt} {tc : TDT} {tb : TDS} (hp : PassesOwn (model X.prog X.w) X.A X.env X.xe) (hc : DT X c tc) (hb : DSs X body tb) : DS X (.While c body [] pos) (dWhile tc tb) := ps_imp (ps_while hp hc hb) fun D σ H ⟨B, M, ρ, E0, rel, re, ⟨W, ⟨m0, w0⟩, turn⟩, cv⟩ => by
  refine ⟨fun m σ' H' => ∃ B' M' ρ', Step (kw X) B M H B' M' H' ∧ RE (kw X) B' σ' ρ' ∧ W m ρ' M', ⟨m0, B, M, ρ, .refl rel, re, w0⟩, ?_⟩
  rintro m σ' H' ⟨B', M', ρ', s', re', w⟩
  refine ⟨B', M', ρ', _, s'.to, re', turn m ρ' M' w, fun b M1 B1 H1 q s1 => ?_⟩
  have sA := s'.trans s1
  cases b with
  | true =>
    simp only [if_true] at q ⊢
    refine ⟨fun σ2 H2 => ∃ m', m' < m ∧ ∃ B2 M2 ρ2, Step (kw X) B M H B2 M2 H2 ∧ RE (kw X) B2 σ2 ρ2 ∧ W m' ρ2 M2, fun σ2 H2 h => h, B1, M1, ρ', _, s1.to, re'.mono s1.same, q, ⟨fun ρ4 M4 σ4 B4 H4 q4 s4 r4 => ?_, cv.rt.step sA, fun ρ4 M4 σ4 B4 H4 q4 s4 r4 => ?_, fun ρ4 M4 σ4 B4 H4 q4 s4 r4 => ?_⟩⟩
    · obtain ⟨m', hm, w'⟩ := q4
      exact ⟨m', hm, B4, M4, ρ4, sA.trans s4, r4, w'⟩
    · exact cv.nx ρ4 M4 σ4 B4 H4 q4 (sA.trans s4) r4
    · obtain ⟨m', hm, w'⟩ := q4
      exact ⟨m', hm, B4, M4, ρ4, sA.trans s4, r4, w'⟩
  | false =>
    simp only [Bool.false_eq_true, if_false] at q ⊢
    exact cv.nx ρ' M1 σ' B1 H1 q sA (re'.mono s1.same)
end

/-! ### list comprehensions -/
section
variable {K : Kw} {B B1 : Hp} {M M1 : DM} {H H1 : Hp}
/-- a thing of one's own, made since, is told -/
theorem Step.learn (s : Step K B M H B1 M1 H1) {D : Addr} {h : HO} {o : DO} (h0 : H D = none) (h1 : H1 D = some h) (ro : RO K B1 D h o) (hB : B1 D = none) : Step K B M H B1 (put M1 D o) H1 := by
  refine ⟨s.same, ⟨s.to.sub, fun a u e => ?_⟩, fun a u e1 e2 e3 => ?_, s.grow, s.frz⟩
  · by_cases q : a = D
    · subst q
      rw [put_same] at e; cases e
      exact ⟨hB, h, h1, ro⟩
    · rw [put_ne q] at e
      exact s.to.rel a u e
  · obtain ⟨x, y, z⟩ := s.frame a u e1 e2 e3
    exact ⟨x, by rw [put_ne (ne_of_none e1 h0)]; exact y, z⟩
theorem Step.learnB (s : Step K B M H B1 M1 H1) {D : Addr} {h : HO} (h0 : H D = none) (h1 : H1 D = some h) (hM : M1 D = none) (hB : B1 D = none) : Step K B M H (upd B1 D h) M1 H1 := by
  have sm : Same B1 (upd B1 D h) := same_new hB
  refine ⟨s.same.trans sm, ⟨fun b u e => ?_, fun a u e => ?_⟩, fun a u e1 e2 e3 => ?_, s.grow, s.frz⟩
  · by_cases q : b = D
    · subst q; rw [upd_same] at e; cases e; exact h1
    · rw [upd_ne q] at e; exact s.to.sub _ _ e
  · have ne : a ≠ D := fun q => by subst q; rw [hM] at e; cases e
    obtain ⟨x, g, y, z⟩ := s.to.rel a u e
    exact ⟨by rw [upd_ne ne]; exact x, g, y, z.mono sm⟩
  · obtain ⟨x, y, z⟩ := s.frame a u e1 e2 e3
    exact ⟨x, y, by rw [upd_ne (ne_of_none e1 h0)]; exact z⟩
end
section
variable {X : Cx}
def dYes : TDT := fun _ M Q => Q true M
abbrev DTs (X : Cx) (ifs : List Expr) (t : TDT) : Prop := PTs X ifs (upT (kw X) t)
theorem dts_nil : DTs X [] dYes := ⟨fun pins s σ H Q I ⟨B, M, ρ, Q0, rel, re, h, k⟩ => pts_nil.run pins s σ H Q I (k true M B H h (.refl rel))⟩
theorem dts_one {c : Expr} {t : TDT} (h : DT X c t) : DTs X [c] t := pts_one h
/-- what is made, item by item: Q of the items -/
def lcW (g : TDG) (tt : TDT) (te : TDE) (ρ : DSt) (S : DM → Prop) (Q : List DV → DM → Prop) : List DV → List DV → DM → Prop
  | [], acc, M => S M ∧ Q acc M
  | x :: r, acc, M => S M ∧ g x ρ M fun ρ2 M2 => tt ρ2 M2 fun b M3 => if b = true then te ρ2 M3 fun y M4 => acc.length < sizeLine ∧ lcW g tt te ρ S Q r (acc ++ [y]) M4 else lcW g tt te ρ S Q r acc M3
def dLcQ (ti : TDI) (g : TDG) (tt : TDT) (te : TDE) (vs : List Nat) (Q : List DV → DM → Prop) : DSt → DM → Prop := fun ρ M => ti ρ M fun xs S M1 => lcW g tt te (dwipe ρ vs) S Q xs [] M1
/-- a new list that may be changed -/
def dLc (ti : TDI) (g : TDG) (tt : TDT) (te : TDE) (vs : List Nat) : TDE := fun ρ M Q => dLcQ ti g tt te vs (fun ds M' => ∀ p, M' p = none → Q (.ref p) (put M' p (.lst ds))) ρ M
/-- data that nobody changes -/
def dLcF (ti : TDI) (g : TDG) (tt : TDT) (te : TDE) (vs : List Nat) : TDE := fun ρ M Q => dLcQ ti g tt te vs (fun ds M' => ∃ xs, dataL ds = some xs ∧ Q (.d (.list xs)) M') ρ M
variable {elt tg iter : Expr} {ifs : List Expr} {scope : Scope} {own : List (Str × Nat)} {pos : Pos} {ti : TDI} {is : List Nat} {g : TDG} {tt : TDT} {te : TDE}
/-- the layer's reading of a comprehension, from the level of data; fin: what becomes of the list at D -/
theorem up_lc {σ : L2.St} {H : Hp} {Q : VK} {B : Hp} {M : DM} {ρ : DSt} {Q0 : List DV → DM → Prop} (hsub : ∀ i ∈ is, i ∈ own.map (·.2)) (rel : Rel (kw X) B M H) (re : RE (kw X) B σ ρ) (h : dLcQ ti g tt te (own.map (·.2)) Q0 ρ M)
    (fin : ∀ ds M' vs B' H' D, Q0 ds M' → Step (kw X) B M H B' M' H' → H D = none → H' D = some (.lst vs) → RVs (kw X) B' vs ds → M' D = none → B' D = none → Q (.ref D) H') :
    tLc (upI (kw X) ti) (upG (kw X) is g) (upT (kw X) tt) (upE (kw X) te) (own.map (·.2)) σ H Q := by
  refine ⟨B, M, ρ, _, rel, re, h, fun xs S M1 B1 H1 J q s ok => ?_⟩
  intro D hD
  have s00 := Step.junk s.to hD (.lst [])
  have s0 := s.trans s00
  have hDH : H D = none := s.grow D hD
  refine ⟨fun i m H' => m = xs.length - i ∧ i ≤ xs.length ∧ ∃ B' M' acc vs, Step (kw X) B M H B' M' H' ∧ ItOk (kw X) B' H' xs S J ∧ H' D = some (.lst vs) ∧ RVs (kw X) B' vs acc ∧ M' D = none ∧ B' D = none ∧ RE (kw X) B' σ ρ ∧ lcW g tt te (dwipe ρ (own.map (·.2))) S Q0 (xs.drop i) acc M',
    ⟨_, rfl, Nat.zero_le _, B1, M1, [], [], s0, ok.mono s00.same s00.frz, upd_same, .nil, s.to.freshM hD, s.to.freshB hD, re.mono s.same, q⟩, ?_⟩
  rintro i m H' ⟨rfl, hi, B', M', acc, vs, s', ok', hL, rv, hM, hB, re', w⟩
  by_cases hl : i < xs.length
  · have ed : xs.drop i = xs[i] :: xs.drop (i + 1) := by simp
    rw [ed] at w
    obtain ⟨hS, w⟩ := w
    obtain ⟨go, yl⟩ := ok'.go B' M' H' i (Same.refl _) (fun _ _ _ h => h) s'.to hS hl
    refine .inr ⟨go, fun H2 => ∃ B2 M2 acc2 vs2, Step (kw X) B M H B2 M2 H2 ∧ ItOk (kw X) B2 H2 xs S J ∧ H2 D = some (.lst vs2) ∧ RVs (kw X) B2 vs2 acc2 ∧ M2 D = none ∧ B2 D = none ∧ RE (kw X) B2 σ ρ ∧ lcW g tt te (dwipe ρ (own.map (·.2))) S Q0 (xs.drop (i + 1)) acc2 M2,
      fun H2 ⟨B2, M2, acc2, vs2, z⟩ => ⟨xs.length - (i + 1), by omega, rfl, hl, B2, M2, acc2, vs2, z⟩, fun x H'' y => ?_⟩
    obtain ⟨B'', d, ex, st, rx⟩ := yl x H'' y
    have exd : d = xs[i] := by
      rw [List.getElem?_eq_getElem hl] at ex
      exact (Option.some.inj ex).symm
    subst exd
    obtain ⟨hL1, hM1, hB1⟩ := st.frame D _ hL hM hB
    refine ⟨B'', M', dwipe ρ (own.map (·.2)), xs[i], _, st.to, (re'.mono st.same).wipe _, rx, w, fun ρ3 M3 σ3 B3 H3 q3 s3 re3 ag => ⟨(ag.wipe hsub).trans (by
      apply List.ext_getElem?
      intro jj
      rw [wipe_get, wipe_get, wipe_length]
      by_cases h : jj ∈ own.map (·.2) <;> simp only [h, if_true, if_false]), ?_⟩⟩
    have s23 := st.trans s3
    obtain ⟨hL3, hM3, hB3⟩ := s3.frame D _ hL1 hM1 hB1
    refine ⟨B3, M3, ρ3, _, s3.to, re3, q3, fun b M4 B4 H4 q4 s4 => ?_⟩
    obtain ⟨hL4, hM4, hB4⟩ := s4.frame D _ hL3 hM3 hB3
    have s24 := s23.trans s4
    cases b with
    | true =>
      simp only [if_true] at q4 ⊢
      refine ⟨B4, M4, ρ3, _, s4.to, re3.mono s4.same, q4, fun y5 M5 v5 B5 H5 ⟨z5, q5⟩ s5 r5 => ?_⟩
      obtain ⟨hL5, hM5, hB5⟩ := s5.frame D _ hL4 hM4 hB4
      have s25 := s24.trans s5
      refine ⟨vs, hL5, by rw [rv.length]; exact z5, ?_⟩
      have sF := (s'.trans s25).poke hDH hM5 hB5 (.lst (vs ++ [v5]))
      exact ⟨B5, M5, acc ++ [y5], vs ++ [v5], sF, ok'.mono s25.same (fun a o u e => by
        have e5 := s25.frz a o u e
        have ne : a ≠ D := fun z => by subst z; rw [hL5] at e5; cases e5
        rw [upd_ne ne]; exact e5), upd_same, (rv.mono s25.same).append (.cons r5 .nil), hM5, hB5, re'.mono s25.same, q5⟩
    | false =>
      simp only [Bool.false_eq_true, if_false] at q4 ⊢
      exact ⟨B4, M4, acc, vs, s'.trans s24, ok'.mono s24.same s24.frz, hL4, rv.mono s24.same, hM4, hB4, re'.mono s24.same, q4⟩
  · have e : i = xs.length := by omega
    subst e
    rw [List.drop_length] at w
    exact .inl ⟨ok'.stop B' M' H' _ (Same.refl _) (fun _ _ _ h => h) s'.to w.1 (Nat.le_refl _), fin acc M' vs B' H' D w.2 s' hDH hL rv hM hB⟩
theorem lc_fin {σ : L2.St} {H : Hp} {Q : VK} {B : Hp} {M : DM} {Q0 : DK} (k : KV1 (kw X) B M H Q0 Q) : ∀ ds M' vs B' H' D, (∀ p, M' p = none → Q0 (.ref p) (put M' p (.lst ds))) → Step (kw X) B M H B' M' H' → H D = none → H' D = some (.lst vs) → RVs (kw X) B' vs ds → M' D = none → B' D = none → Q (.ref D) H' :=
  fun ds M' vs B' H' D q s h0 h1 r hM hB => k _ _ _ _ _ (q D hM) (s.learn h0 h1 (.l r) hB) (.ref D)
theorem lc_finF {σ : L2.St} {H : Hp} {Q : VK} {B : Hp} {M : DM} {Q0 : DK} (k : KV1 (kw X) B M H Q0 Q) : ∀ ds M' vs B' H' D, (∃ xs, dataL ds = some xs ∧ Q0 (.d (.list xs)) M') → Step (kw X) B M H B' M' H' → H D = none → H' D = some (.lst vs) → RVs (kw X) B' vs ds → M' D = none → B' D = none → Q (.ref D) H' :=
  fun ds M' vs B' H' D ⟨xs, e, q⟩ s h0 h1 r hM hB => by
    have st := s.learnB h0 h1 hM hB
    have e' := dataL_eq e
    subst e'
    exact k _ _ _ _ _ q st (.d (.lst upd_same (dp_monoL (same_new hB) _ _ r.toDp)))
theorem de_lc (hc : X.calm = true) (hN : X.N.Nodup) (hi : DI X tg iter ti) (ok : BlkOk X.N X.env.scope scope own) (hsub : ∀ i ∈ is, i ∈ own.map (·.2))
    (hg : ∀ (s : Shared) (H : Hp) (C : Addr) (cl : List (Str × Addr)) (fp : List Addr), DG (X.blk s H scope (compEnvC scope cl C X.env) fp) tg is g) (ht : ∀ (s : Shared) (H : Hp) (C : Addr) (cl : List (Str × Addr)) (fp : List Addr), DTs (X.blk s H scope (compEnvC scope cl C X.env) fp) ifs tt)
    (he : ∀ (s : Shared) (H : Hp) (C : Addr) (cl : List (Str × Addr)) (fp : List Addr), DE (X.blk s H scope (compEnvC scope cl C X.env) fp) elt te) (hs : ∀ x, foldedSetIterable iter X.env x = pure x := by intro _; rfl) :
    DE X (.ListComp elt [⟨tg, iter, ifs, 0⟩] scope pos) (dLc ti g tt te (own.map (·.2))) :=
  pe_imp (pe_lc hc hN hi ok hg ht he hs) fun σ H Q ⟨B, M, ρ, Q0, rel, re, h, k⟩ => up_lc hsub rel re h (lc_fin (σ := σ) k)
theorem de_lcF (hc : X.calm = true) (hN : X.N.Nodup) (hi : DI X tg iter ti) (ok : BlkOk X.N X.env.scope scope own) (hsub : ∀ i ∈ is, i ∈ own.map (·.2))
    (hg : ∀ (s : Shared) (H : Hp) (C : Addr) (cl : List (Str × Addr)) (fp : List Addr), DG (X.blk s H scope (compEnvC scope cl C X.env) fp) tg is g) (ht : ∀ (s : Shared) (H : Hp) (C : Addr) (cl : List (Str × Addr)) (fp : List Addr), DTs (X.blk s H scope (compEnvC scope cl C X.env) fp) ifs tt)
    (he : ∀ (s : Shared) (H : Hp) (C : Addr) (cl : List (Str × Addr)) (fp : List Addr), DE (X.blk s H scope (compEnvC scope cl C X.env) fp) elt te) (hs : ∀ x, foldedSetIterable iter X.env x = pure x := by intro _; rfl) :
    DE X (.ListComp elt [⟨tg, iter, ifs, 0⟩] scope pos) (dLcF ti g tt te (own.map (·.2))) :=
  pe_imp (pe_lc hc hN hi ok hg ht he hs) fun σ H Q ⟨B, M, ρ, Q0, rel, re, h, k⟩ => up_lc hsub rel re h (lc_finF (σ := σ) k)
/-- y = [..] -/
theorem ds_setLc {i : Nat} {y : Str} {py spos : Pos} (hc : X.calm = true) (hN : X.N.Nodup) (hy : X.N[i]? = some y) (hyl : X.env.scope.names.lookup y = some .local)
    (hsw : swapsWith (.ListComp elt [⟨tg, iter, ifs, 0⟩] scope pos) (some (.Name y py)) spos.line X.env = pure true) (hi : DI X tg iter ti) (ok : BlkOk X.N X.env.scope scope own) (hsub : ∀ i ∈ is, i ∈ own.map (·.2))
    (hg : ∀ (s : Shared) (H : Hp) (C : Addr) (cl : List (Str × Addr)) (fp : List Addr), DG (X.blk s H scope (compEnvC scope cl C X.env) fp) tg is g) (ht : ∀ (s : Shared) (H : Hp) (C : Addr) (cl : List (Str × Addr)) (fp : List Addr), DTs (X.blk s H scope (compEnvC scope cl C X.env) fp) ifs tt)
    (he : ∀ (s : Shared) (H : Hp) (C : Addr) (cl : List (Str × Addr)) (fp : List Addr), DE (X.blk s H scope (compEnvC scope cl C X.env) fp) elt te) (hs : ∀ x, foldedSetIterable iter X.env x = pure x := by intro _; rfl) :
    DS X (.Assign [.Name y py] (.ListComp elt [⟨tg, iter, ifs, 0⟩] scope pos) spos) (dAsg (dLc ti g tt te (own.map (·.2))) (dgName i)) :=
  ps_imp (ps_setLc hc hN hy hyl hsw hi ok hg ht he hs) fun D σ H ⟨B, M, ρ, E0, rel, re, h, c⟩ => up_lc hsub rel re h fun ds M' vs B' H' L q s h0 h1 r hM hB =>
    c.nx _ _ _ _ _ (q L hM) (s.learn h0 h1 (.l r) hB) ((re.mono s.same).set (.ref L) i)
theorem ds_setLcF {i : Nat} {y : Str} {py spos : Pos} (hc : X.calm = true) (hN : X.N.Nodup) (hy : X.N[i]? = some y) (hyl : X.env.scope.names.lookup y = some .local)
    (hsw : swapsWith (.ListComp elt [⟨tg, iter, ifs, 0⟩] scope pos) (some (.Name y py)) spos.line X.env = pure true) (hi : DI X tg iter ti) (ok : BlkOk X.N X.env.scope scope own) (hsub : ∀ i ∈ is, i ∈ own.map (·.2))
    (hg : ∀ (s : Shared) (H : Hp) (C : Addr) (cl : List (Str × Addr)) (fp : List Addr), DG (X.blk s H scope (compEnvC scope cl C X.env) fp) tg is g) (ht : ∀ (s : Shared) (H : Hp) (C : Addr) (cl : List (Str × Addr)) (fp : List Addr), DTs (X.blk s H scope (compEnvC scope cl C X.env) fp) ifs tt)
    (he : ∀ (s : Shared) (H : Hp) (C : Addr) (cl : List (Str × Addr)) (fp : List Addr), DE (X.blk s H scope (compEnvC scope cl C X.env) fp) elt te) (hs : ∀ x, foldedSetIterable iter X.env x = pure x := by intro _; rfl) :
    DS X (.Assign [.Name y py] (.ListComp elt [⟨tg, iter, ifs, 0⟩] scope pos) spos) (dAsg (dLcF ti g tt te (own.map (·.2))) (dgName i)) :=
  ps_imp (ps_setLc hc hN hy hyl hsw hi ok hg ht he hs) fun D σ H ⟨B, M, ρ, E0, rel, re, h, c⟩ => up_lc hsub rel re h fun ds M' vs B' H' L ⟨xs, e, q⟩ s h0 h1 r hM hB => by
    have st := s.learnB h0 h1 hM hB
    have e' := dataL_eq e
    subst e'
    exact c.nx _ _ _ _ _ q st ((re.mono st.same).set (.d (.lst upd_same (dp_monoL (same_new hB) _ _ r.toDp))) i)
end
end DL

set_option Elab.async false
set_option linter.all false
set_option maxRecDepth 100000
set_option maxHeartbeats 4000000
namespace DL
open PySem L2 PyProof.Rows

/-! ### defs by name -/
/-- the def x, its promise: to be called with so many arguments that dxs are the defaults of the rest -/
def Fn (P : Program) (w : World) (K : PySem.W.Frag) (mg : Str → Option Value) (base : Heap) (x : Str) (k : Nat) (ps : List Str) (dxs : List PyData) (sp : DSp) : Prop :=
  ∃ (f : Addr) (fd : FuncData) (dvs : List V) (dus : List Value), DFn P w K mg base k f fd ps sp ∧ mg x = some (.ref f) ∧ PySem.W.keepIn K (.ref f) = true ∧ Binds K fd ps dus ∧ Vals dvs dus ∧ ∀ B, DDs ⟨K, P, w⟩ B dvs dxs
/-- where the def x stands -/
def Def (P : Program) (w : World) (K : PySem.W.Frag) (mg : Str → Option Value) (x : Str) (st : Stmt) (ps : List Str) (dxs : List PyData) : Prop :=
  ∃ (f : Addr) (fd : FuncData) (dvs : List V) (dus : List Value), Fun K x x st f fd ∧ mg x = some (.ref f) ∧ Binds K fd ps dus ∧ Vals dvs dus ∧ ∀ B, DDs ⟨K, P, w⟩ B dvs dxs
section
variable {X : Cx} {k : Nat} {ps : List Str} {sp : DSp} {dxs : List PyData} {x : Str} {p pos : Pos} {e : Expr} {es : List Expr} {t : TDA}
theorem de_fn (F : Fn X.prog X.w X.K X.mg X.base x k ps dxs sp) (hr : Room k X.A) (gd : X.A.guards = some []) (hg : Gl X x)
    (ha : DA X (e :: es) t) (hdb : (x == ("__debug__" : Str)) = false := by decide) (st1 : starEach (e :: es) X.env = (false, eval e X.env) :: starEach es X.env := by rfl) (st2 : (backTo pos (starEach es X.env)).any (·.1) = false := by rfl) :
    DE X (.Call (.Name x p) (e :: es) [] pos) (dCall sp dxs t) := by
  obtain ⟨f, fd, dvs, dus, F, hm, hk, hb, hd, hdd⟩ := F
  exact de_call F hr gd hg hm hk hb hd hdd ha hdb st1 st2
theorem de_fn0 (F : Fn X.prog X.w X.K X.mg X.base x k ps dxs sp) (hr : Room k X.A) (gd : X.A.guards = some []) (hg : Gl X x) (hdb : (x == ("__debug__" : Str)) = false := by decide) :
    DE X (.Call (.Name x p) [] [] pos) (dCall sp dxs dNil) := by
  obtain ⟨f, fd, dvs, dus, F, hm, hk, hb, hd, hdd⟩ := F
  exact de_call0 F hr gd hg hm hk hb hd hdd hdb
end
theorem Fn.mono {P : Program} {w : World} {K : PySem.W.Frag} {mg : Str → Option Value} {base : Heap} {x : Str} {j k : Nat} {ps : List Str} {dxs : List PyData} {sp : DSp} (F : Fn P w K mg base x j ps dxs sp) (h : j ≤ k) : Fn P w K mg base x k ps dxs sp := by
  obtain ⟨f, fd, dvs, dus, F, r⟩ := F
  exact ⟨f, fd, dvs, dus, FnG.mono F h, r⟩
section
variable {P : Program} {w : World} {K : PySem.W.Frag} {mg : Str → Option Value} {base : Heap}
theorem Def.fn {x : Str} {st : Stmt} {N ps : List Str} {dxs : List PyData} {k : Nat} {sp : DSp} (D : Def P w K mg x st ps dxs) (S : FnScope N ps (defScope st)) (len : ∀ ds M Q, sp ds M Q → ds.length = ps.length)
    (hbody : ∀ (f : Addr) (cdv : Value) (A : Around) (callers : List Env) (s : Shared) (H : Hp) (E : XK), Room k (A.deeper (envOfC x (defScope st) s.heap.objs.size f cdv)) → (A.deeper (envOfC x (defScope st) s.heap.objs.size f cdv)).guards = some [] →
      ∃ t : TDS, DSs (cxOf CX0 P w K mg base N x (defScope st) f cdv A callers s H E).nox (defBody st) t ∧ ∀ ds M Q, sp ds M Q → t { nx := fun _ M' => Q (.d .none) M', rt := Q } (dstart N ds) M) : Fn P w K mg base x (k + 1) ps dxs sp := by
  obtain ⟨f, fd, dvs, dus, F, hm, hb, hd, hdd⟩ := D
  exact ⟨f, fd, dvs, dus, dfn_ok F S len (fun cdv A callers s H E hr gd => hbody f cdv A callers s H E hr gd), hm, F.kp, hb, hd, hdd⟩
end
theorem un65 {k : Nat} {A : Around} (r : Room k A) : A.units + 65 < cLine := by have := r.un; omega
theorem un66 {k : Nat} {A : Around} (r : Room k A) : A.units + 66 < cLine := by have := r.un; omega
end DL

set_option Elab.async false
set_option linter.all false
set_option maxRecDepth 100000
set_option maxHeartbeats 4000000
namespace DL
open PySem L2 PyProof.Rows

/-! ### a key's tuple, as the library tells it -/
section
variable {X : Cx} {pins : List (Addr × Obj)} {σ : L2.St} {H : Hp} {s : Shared}
mutual
theorem nested_of (I : Inv X pins σ H s) : ∀ (k : NestedKey) (v : V) (u : Value), Dp X.K H v k.data → RelV v u → NestedIs s.heap k u
  | .none, v, u, h, r => by
    simp only [NestedKey.data] at h
    cases h; cases r; exact .none
  | .num i, v, u, h, r => by
    simp only [NestedKey.data] at h
    cases h
    obtain ⟨t, rfl⟩ := r
    exact .int i t
  | .text x, v, u, h, r => by
    simp only [NestedKey.data] at h
    cases h
    obtain ⟨t, rfl⟩ := r
    exact .text x t
  | .tup ks, v, u, h, r => by
    simp only [NestedKey.data] at h
    cases h with
    | tup hs ha =>
      cases r
      obtain ⟨its, rv, ⟨o, ho, hc, n, hd⟩, _⟩ := I.tuple hs
      exact .tup ho hc hd (by simpa using nested_ofL I ks _ _ ha rv)
theorem nested_ofL (I : Inv X pins σ H s) : ∀ (ks : List NestedKey) (vs : List V) (us : List Value), DpAll X.K H vs (NestedKey.datas ks) → Vals vs us → NestedAll s.heap ks us
  | [], vs, us, h, r => by
    simp only [NestedKey.datas] at h
    cases h; cases r; exact .nil
  | k :: ks, vs, us, h, r => by
    simp only [NestedKey.datas] at h
    cases h with
    | cons h1 h2 =>
      cases r with
      | cons r1 r2 => exact .cons (nested_of I k _ _ h1 r1) (nested_ofL I ks _ _ h2 r2)
end
end

/-! ### what a dict holds -/
def dget (kd : List (NestedKey × DV)) (k : NestedKey) : Option DV := (kd.find? fun x => decide (x.1 = k)).map (·.2)
def dput (kd : List (NestedKey × DV)) (k : NestedKey) (d : DV) : List (NestedKey × DV) := if (dget kd k).isSome then kd.map (fun x => if x.1 = k then (x.1, d) else x) else kd ++ [(k, d)]
/-- the model's entries beside ours -/
inductive RD3 (K : Kw) (B : Hp) : List (NestedKey × Addr × Value) → List (NestedKey × DV) → Prop
  | nil : RD3 K B [] []
  | cons {k : NestedKey} {q : Addr} {v : V} {u : Value} {d : DV} {r : List (NestedKey × Addr × Value)} {s : List (NestedKey × DV)} : DD K B (.ref q) k.data → k.depth ≤ 8 → RelV v u → RV K B v d → RD3 K B r s → RD3 K B ((k, q, u) :: r) ((k, d) :: s)
section
variable {K : Kw} {B B' : Hp}
theorem RD3.mono (s : Same B B') : ∀ {xs : List (NestedKey × Addr × Value)} {ys : List (NestedKey × DV)}, RD3 K B xs ys → RD3 K B' xs ys
  | _, _, .nil => .nil
  | _, _, .cons a b c d t => .cons (dp_mono s _ _ a) b c (d.mono s) (RD3.mono s t)
theorem RD3.of : ∀ {raw : List (NestedKey × Addr × V)} {vs : List (NestedKey × Addr × Value)} {kd : List (NestedKey × DV)}, Paired (fun p q => p.1 = q.1 ∧ p.2.1 = q.2.1 ∧ RelV p.2.2 q.2.2) raw vs → REN K B raw kd → RD3 K B vs kd
  | _, _, _, .nil, .nil => .nil
  | _, _, _, .cons (b := ⟨k', q', u⟩) ⟨h1, h2, h3⟩ t, .cons a b c t2 => by
    cases h1; cases h2
    exact .cons a b h3 c (RD3.of t t2)
theorem RD3.back : ∀ {vs : List (NestedKey × Addr × Value)} {kd : List (NestedKey × DV)}, RD3 K B vs kd → ∃ raw, Paired (fun (p : NestedKey × Addr × V) (q : NestedKey × Addr × Value) => p.1 = q.1 ∧ p.2.1 = q.2.1 ∧ RelV p.2.2 q.2.2) raw vs ∧ REN K B raw kd
  | _, _, .nil => ⟨[], .nil, .nil⟩
  | _, _, .cons (k := k) (q := q) (v := v) a b c d t => by
    obtain ⟨raw, h1, h2⟩ := RD3.back t
    exact ⟨(k, q, v) :: raw, .cons ⟨rfl, rfl, c⟩ h1, .cons a b d h2⟩
theorem RD3.len : ∀ {vs : List (NestedKey × Addr × Value)} {kd : List (NestedKey × DV)}, RD3 K B vs kd → vs.length = kd.length
  | _, _, .nil => rfl
  | _, _, .cons _ _ _ _ t => by simp [RD3.len t]
theorem RD3.keys : ∀ {vs : List (NestedKey × Addr × Value)} {kd : List (NestedKey × DV)}, RD3 K B vs kd → vs.map (·.1) = kd.map (·.1)
  | _, _, .nil => rfl
  | _, _, .cons _ _ _ _ t => by simp [RD3.keys t]
theorem atKey_cons (x : NestedKey × Addr × Value) (xs : List (NestedKey × Addr × Value)) (k : NestedKey) : atKey (x :: xs) k = if x.1 = k then some x.2 else atKey xs k := by
  unfold atKey
  rw [List.find?_cons]
  by_cases h : x.1 = k <;> simp [h]
theorem dget_cons (x : NestedKey × DV) (xs : List (NestedKey × DV)) (k : NestedKey) : dget (x :: xs) k = if x.1 = k then some x.2 else dget xs k := by
  unfold dget
  rw [List.find?_cons]
  by_cases h : x.1 = k <;> simp [h]
theorem RD3.at : ∀ {vs : List (NestedKey × Addr × Value)} {kd : List (NestedKey × DV)} (k : NestedKey), RD3 K B vs kd → (atKey vs k = none ∧ dget kd k = none) ∨ ∃ q u v d, atKey vs k = some (q, u) ∧ dget kd k = some d ∧ RelV v u ∧ RV K B v d
  | _, _, k, .nil => .inl ⟨rfl, rfl⟩
  | _, _, k, .cons (k := k') (q := q) (v := v) (u := u) (d := d) a b c e t => by
    rw [atKey_cons, dget_cons]
    by_cases h : k' = k
    · exact .inr ⟨q, u, v, d, if_pos h, if_pos h, c, e⟩
    · rw [if_neg h, if_neg h]
      exact RD3.at k t
theorem RD3.map_put {k : NestedKey} {v : V} {u : Value} {d : DV} (c : RelV v u) (e : RV K B v d) : ∀ {vs : List (NestedKey × Addr × Value)} {kd : List (NestedKey × DV)}, RD3 K B vs kd → RD3 K B (vs.map (putAt k u)) (kd.map fun x => if x.1 = k then (x.1, d) else x)
  | _, _, .nil => .nil
  | _, _, .cons (k := k') a b c' e' t => by
    rw [List.map_cons, List.map_cons]
    unfold putAt
    by_cases h : k' = k
    · rw [if_pos h, if_pos h]
      exact .cons a b c e (RD3.map_put c e t)
    · rw [if_neg h, if_neg h]
      exact .cons a b c' e' (RD3.map_put c e t)
theorem RD3.snoc {k : NestedKey} {q : Addr} {v : V} {u : Value} {d : DV} (a : DD K B (.ref q) k.data) (b : k.depth ≤ 8) (c : RelV v u) (e : RV K B v d) : ∀ {vs : List (NestedKey × Addr × Value)} {kd : List (NestedKey × DV)}, RD3 K B vs kd → RD3 K B (vs ++ [(k, q, u)]) (kd ++ [(k, d)])
  | _, _, .nil => .cons a b c e .nil
  | _, _, .cons a' b' c' e' t => .cons a' b' c' e' (RD3.snoc a b c e t)
theorem RD3.put {k : NestedKey} {q : Addr} {v : V} {u : Value} {d : DV} (a : DD K B (.ref q) k.data) (b : k.depth ≤ 8) (c : RelV v u) (e : RV K B v d) {vs : List (NestedKey × Addr × Value)} {kd : List (NestedKey × DV)} (r : RD3 K B vs kd) : RD3 K B (storedH vs k q u) (dput kd k d) := by
  unfold storedH dput
  rcases r.at k with ⟨h1, h2⟩ | ⟨q', u', v', d', h1, h2, _, _⟩
  · rw [h1, h2]
    exact r.snoc a b c e
  · rw [h1, h2]
    exact r.map_put c e
def dmerge (kd more : List (NestedKey × DV)) : List (NestedKey × DV) := more.foldl (fun acc x => dput acc x.1 x.2) kd
theorem RD3.merge : ∀ {more : List (NestedKey × Addr × Value)} {mk : List (NestedKey × DV)} {vs : List (NestedKey × Addr × Value)} {kd : List (NestedKey × DV)}, RD3 K B more mk → RD3 K B vs kd → RD3 K B (storedAllH vs more) (dmerge kd mk)
  | _, _, vs, kd, .nil, r => r
  | _, _, vs, kd, .cons (k := k) (q := q) (u := u) (d := d') (r := rm) (s := sm) a b c d t, r => by
    show RD3 K B (storedAllH (storedH vs k q u) rm) (dmerge (dput kd k d') sm)
    exact RD3.merge t (r.put a b c d)
theorem RD3.mem : ∀ {vs : List (NestedKey × Addr × Value)} {kd : List (NestedKey × DV)}, RD3 K B vs kd → ∀ x ∈ vs, DD K B (.ref x.2.1) x.1.data ∧ x.1.depth ≤ 8
  | _, _, .nil, x, h => by cases h
  | _, _, .cons a b c d t, x, h => by
    rcases List.mem_cons.mp h with rfl | h
    · exact ⟨a, b⟩
    · exact RD3.mem t x h
theorem RD3.get : ∀ {vs : List (NestedKey × Addr × Value)} {kd : List (NestedKey × DV)} {i : Nat} {k : NestedKey} {d : DV}, RD3 K B vs kd → kd[i]? = some (k, d) → ∃ q u v, vs[i]? = some (k, q, u) ∧ DD K B (.ref q) k.data ∧ RelV v u ∧ RV K B v d
  | _, _, i, k, d, .nil, e => by simp at e
  | _, _, 0, k, d, .cons a b c e' t, e => by
    simp at e
    obtain ⟨rfl, rfl⟩ := e
    exact ⟨_, _, _, rfl, a, c, e'⟩
  | _, _, i + 1, k, d, .cons a b c e' t, e => by
    obtain ⟨q, u, v, z⟩ := RD3.get t (show _ = _ by simpa using e)
    exact ⟨q, u, v, by simpa using z⟩
end
theorem storedH_len (xs : List (NestedKey × Addr × Value)) (k : NestedKey) (a : Addr) (v : Value) : (storedH xs k a v).length ≤ xs.length + 1 := by
  unfold storedH
  split <;> simp

/-! ### the object -/
section
variable {X : Cx} {pins : List (Addr × Obj)} {σ : L2.St} {H : Hp} {s : Shared} {B : Hp} {a : Addr} {kd : List (NestedKey × DV)}
theorem is_of (I : Inv X pins σ H s) (sub : Same B H) {k : NestedKey} {q : Addr} (h : DD (kw X) B (.ref q) k.data) (b : k.depth ≤ 8) : (nestedKind X.prog X.w).is s.heap k q :=
  ⟨nested_of I k (.ref q) (.ref q) ((dp_mono sub _ _ h).dp) rfl, b⟩
/-- a dict that stands, as the library's rules want it -/
theorem dict_get {φ : Heap → Prop} {raw : List (NestedKey × Addr × V)} (I : Inv X pins σ H s) (sub : Same B H) (hφ : dictAt (kw X) a raw s.heap) (ren : REN (kw X) B raw kd) :
    ∃ vs, RD3 (kw X) B vs kd ∧ s.heap.DictOfH (nestedKind X.prog X.w) a vs ∧ (a == sysModules) = false ∧ kd.length ≤ sizeLine := by
  obtain ⟨h1, h2, h3, o, es, ep, vs, e1, e2, e3, pr, e4⟩ := hφ
  have r := RD3.of (K := kw X) pr ren
  exact ⟨vs, r, ⟨o, es, ep, e1, e2, e3, e4, fun x hx => let ⟨y, z⟩ := r.mem x hx; is_of I sub y z, by rw [r.keys, ← ren.keys]; exact h3⟩, h1, by rw [← ren.length]; exact h2⟩
theorem dict_put {vs : List (NestedKey × Addr × Value)} {h' : Heap} (r : RD3 (kw X) B vs kd) (hd : h'.DictOfH (nestedKind X.prog X.w) a vs) (hs : (a == sysModules) = false) (hl : kd.length ≤ sizeLine) :
    ∃ raw, REN (kw X) B raw kd ∧ dictAt (kw X) a raw h' := by
  obtain ⟨raw, pr, ren⟩ := r.back
  obtain ⟨o, es, ep, e1, e2, e3, e4, _, e5⟩ := hd
  exact ⟨raw, ren, hs, by rw [ren.length]; exact hl, by rw [ren.keys, ← r.keys]; exact e5, o, es, ep, vs, e1, e2, e3, pr, e4⟩
theorem ext_ok {P : Program} {w : World} {K : Kw} {H : Hp} {h : Heap} {a : Addr} {raw : List (NestedKey × Addr × V)} (x : dictAt K a raw h) : ObjOk P w H h a (.ext (dictAt K a raw)) := by
  refine ⟨x, ?_, fun h1 h2 y k => y.stay k⟩
  obtain ⟨_, _, _, o, _, _, _, e, _⟩ := x
  exact ⟨o, e⟩
/-- the dict is written -/
theorem Inv.dictW {φ : Heap → Prop} {raw : List (NestedKey × Addr × V)} {h' : Heap} {tk : Nat} (I : Inv X pins σ H s) (hH : H a = some (.ext φ)) (sb : Heap.SameBut a s.heap h') (y : dictAt (kw X) a raw h') :
    Inv X pins σ (upd H a (.ext (dictAt (kw X) a raw))) { s with heap := h', toks := tk } := by
  refine L2.Inv.write I (x := a) (e := a) (by rw [hH]; trivial) (.inl rfl) (fun b u hb e => (sb.2 b hb).trans e) ?_ (ext_ok y)
  obtain ⟨_, _, _, o, _, _, _, e, _⟩ := y
  exact ⟨o, e⟩
end
theorem room8 {A : Around} (h : A.units + 64 < cLine) : (A.in1).units + 8 < cLine := by
  show A.units + 1 + 8 < cLine
  omega

section
variable {X : Cx}
/-- a dict in the mutable part -/
theorem Rel.dN {K : Kw} {B : Hp} {M : DM} {H : Hp} (r : Rel K B M H) {a : Addr} {kd : List (NestedKey × DV)} (e : M a = some (.dN kd)) : ∃ raw, H a = some (.ext (dictAt K a raw)) ∧ REN K B raw kd := by
  obtain ⟨h, e1, ro⟩ := r.get e
  obtain ⟨raw, rfl, ren⟩ := ro.dN
  exact ⟨raw, e1, ren⟩
/-- a key that is at hand -/
def keyOf : DV → Option NestedKey
  | .d (.tuple xs) => (go xs).map .tup
  | _ => none
where
  go : List PyData → Option (List NestedKey)
    | [] => some []
    | x :: r => match one x, go r with
      | some k, some ks => some (k :: ks)
      | _, _ => none
  one : PyData → Option NestedKey
    | .none => some .none
    | .int i => some (.num i)
    | .str x => some (.text x)
    | .tuple xs => (go xs).map .tup
    | _ => none
mutual
theorem one_data : ∀ (x : PyData) (k : NestedKey), keyOf.one x = some k → k.data = x
  | .none, k, h => by simp only [keyOf.one] at h; cases h; rfl
  | .int i, k, h => by simp only [keyOf.one] at h; cases h; rfl
  | .str z, k, h => by simp only [keyOf.one] at h; cases h; rfl
  | .bool b, k, h => by simp only [keyOf.one] at h; cases h
  | .list b, k, h => by simp only [keyOf.one] at h; cases h
  | .dict b, k, h => by simp only [keyOf.one] at h; cases h
  | .tuple xs, k, h => by
    simp only [keyOf.one] at h
    cases e : keyOf.go xs with
    | none => rw [e] at h; cases h
    | some ks =>
      rw [e] at h; cases h
      simp only [NestedKey.data]
      rw [go_data xs ks e]
theorem go_data : ∀ (xs : List PyData) (ks : List NestedKey), keyOf.go xs = some ks → NestedKey.datas ks = xs
  | [], ks, h => by simp only [keyOf.go] at h; cases h; rfl
  | x :: r, ks, h => by
    simp only [keyOf.go] at h
    cases e1 : keyOf.one x with
    | none => rw [e1] at h; cases h
    | some k =>
      cases e2 : keyOf.go r with
      | none => rw [e1, e2] at h; cases h
      | some ks' =>
        rw [e1, e2] at h; cases h
        simp only [NestedKey.datas]
        rw [one_data x k e1, go_data r ks' e2]
end
theorem rv_key {K : Kw} {B : Hp} {v : V} {d : DV} {k : NestedKey} (r : RV K B v d) (e : keyOf d = some k) : ∃ q, v = .ref q ∧ DD K B (.ref q) k.data := by
  cases d with
  | d x =>
    cases x <;> try (cases e)
    rename_i xs
    cases r with
    | d r =>
      simp only [keyOf] at e
      cases e2 : keyOf.go xs with
      | none => rw [e2] at e; cases e
      | some ks =>
        rw [e2] at e; cases e
        simp only [NestedKey.data]
        rw [go_data xs ks e2]
        cases r with
        | tup h1 h2 => exact ⟨_, rfl, .tup h1 h2⟩
  | ref a => cases e
  | tp a => cases e
/-- {} -/
def dDNewN : TDE := fun _ M Q => ∀ p, M p = none → Q (.ref p) (put M p (.dN []))
theorem de_dnewN {pos : Pos} : DE X (.Dict [] [] pos) dDNewN := ⟨fun pins s σ H Q I ⟨B, M, ρ, Q0, rel, re, h, k⟩ => by
  have hf : H s.heap.objs.size = none := I.hok.fresh (Nat.le_refl _)
  have y : dictAt (kw X) s.heap.objs.size [] (s.heap.push { cls := .type "dict", data := .dict #[] }) :=
    ⟨beq_eq_false_iff_ne.mpr (Ne.symm (Nat.ne_of_lt I.big)), Nat.zero_le _, List.nodup_nil, _, #[], 0, [], Heap.get?_push_size _ rfl, ⟨rfl, rfl, rfl⟩, rfl, .nil, rfl⟩
  refine wpAny_Dict_empty ⟨.ref s.heap.objs.size, _, I.laid (a := s.heap.objs.size) (o := .ext (dictAt (kw X) s.heap.objs.size [])) (t' := s.toks) (fun _ _ q => Heap.get?_push_of_some _ q) (Nat.le_refl _) (ext_ok y), rfl, ?_⟩
  exact k _ _ _ _ _ (h _ (rel.freshM hf)) (Step.newM rel hf (.n .nil)) (.ref _)⟩
/-- d[k] -/
def rDGetN : RD2 := fun x y M Q => ∃ a kd k d, x = .ref a ∧ M a = some (.dN kd) ∧ keyOf y = some k ∧ k.depth ≤ 8 ∧ dget kd k = some d ∧ Q d M
theorem ixd_dN (hu : X.A.units + 64 < cLine) : IxR X (upR2 (kw X) rDGetN) := by
  intro value slice pins s σ H x y v u Q I rx ry ⟨B, M, x', y', Q0, rel, r1, r2, ⟨a, kd, k, d, e1, e2, e3, e4, e5, q⟩, kk⟩ hs
  subst e1
  obtain rfl := rv_ref r1
  obtain ⟨q', rfl, dd⟩ := rv_key r2 e3
  cases rx
  cases ry
  obtain ⟨raw, hH, ren⟩ := rel.dN e2
  obtain ⟨hφ, _⟩ := I.hok a _ hH
  obtain ⟨vs, r3, hD, hsm, hl⟩ := dict_get (φ := dictAt (kw X) a raw) I rel.sub hφ ren
  rcases r3.at k with ⟨_, z⟩ | ⟨q2, u2, v2, d2, h1, h2, h3, h4⟩
  · rw [e5] at z; cases z
  · rw [e5] at h2; cases h2
    refine subscriptTail_builtinR (x := u2) (Q := EP X pins σ Q) hD.typeIs PySem.F.slot_dict_getitem.lookup (wpAny_getItem_heap (room8 hu) (is_of I rel.sub dd e4) hD h1 ⟨rfl, ?_⟩) hs
    exact ⟨v2, H, I.tok _, h3, kk _ M _ B H q (.refl rel) h4⟩
/-- d[k] = v -/
def rSetN : RDSet := fun x y z M Q => ∃ a kd k, x = .ref a ∧ M a = some (.dN kd) ∧ keyOf y = some k ∧ k.depth ≤ 8 ∧ kd.length < sizeLine ∧ Q (put M a (.dN (dput kd k z)))
theorem dput_len (kd : List (NestedKey × DV)) (k : NestedKey) (d : DV) : (dput kd k d).length ≤ kd.length + 1 := by
  unfold dput
  split <;> simp
theorem setd_dN (hu : X.A.units + 64 < cLine) : PSet X (upSet (kw X) rSetN) := by
  intro pins s σ H o i v ov iv u Q I r1 r2 r3 ⟨B, M, x, y, z, Q0, rel, w1, w2, w3, ⟨a, kd, k, e1, e2, e3, e4, e5, q⟩, kk⟩
  subst e1
  obtain rfl := rv_ref w1
  obtain ⟨q', rfl, dd⟩ := rv_key w2 e3
  cases r1
  cases r2
  obtain ⟨raw, hH, ren⟩ := rel.dN e2
  obtain ⟨hφ, _⟩ := I.hok a _ hH
  obtain ⟨vs, rr, hD, hsm, hl⟩ := dict_get (φ := dictAt (kw X) a raw) I rel.sub hφ ren
  refine wpAny_setItem_heap (hsz := by rw [rr.len]; exact hl) (room8 hu) (is_of I rel.sub dd e4) hD fun h' hD' sb => ?_
  have rr' := rr.put dd e4 r3 w3
  obtain ⟨raw', ren', y'⟩ := dict_put rr' hD' hsm (Nat.le_trans (dput_len _ _ _) e5)
  exact ⟨_, Inv.dictW I hH sb y', kk _ _ _ q (Step.mut rel e2 rfl (.n ren'))⟩
/-- a list's place or a dict's, by what stands there -/
theorem setd_or {r r' : RDSet} (h : PSet X (upSet (kw X) r)) (h' : PSet X (upSet (kw X) r')) : PSet X (upSet (kw X) fun x y z M Q => r x y z M Q ∨ r' x y z M Q) := by
  intro pins s σ H o i v ov iv u Q I r1 r2 r3 ⟨B, M, x, y, z, Q0, rel, w1, w2, w3, q, kk⟩
  rcases q with q | q
  · exact h pins s σ H o i v ov iv u Q I r1 r2 r3 ⟨B, M, x, y, z, Q0, rel, w1, w2, w3, q, kk⟩
  · exact h' pins s σ H o i v ov iv u Q I r1 r2 r3 ⟨B, M, x, y, z, Q0, rel, w1, w2, w3, q, kk⟩
/-- k in d -/
def rInN (neg : Bool) : RD2 := fun y x M Q => ∃ a kd k, x = .ref a ∧ M a = some (.dN kd) ∧ keyOf y = some k ∧ k.depth ≤ 8 ∧ Q (.d (.bool (if neg = true then !(dget kd k).isSome else (dget kd k).isSome))) M
theorem opd_inN (hu : X.A.units + 64 < cLine) : OpR X (compareOp .In) (upR2 (kw X) (rInN false)) := by
  intro pins s σ H x y v u Q I rx ry ⟨B, M, x', y', Q0, rel, r1, r2, ⟨a, kd, k, e1, e2, e3, e4, q⟩, kk⟩
  subst e1
  obtain rfl := rv_ref r2
  obtain ⟨q', rfl, dd⟩ := rv_key r1 e3
  cases rx
  cases ry
  obtain ⟨raw, hH, ren⟩ := rel.dN e2
  obtain ⟨hφ, _⟩ := I.hok a _ hH
  obtain ⟨vs, r3, hD, hsm, hl⟩ := dict_get (φ := dictAt (kw X) a raw) I rel.sub hφ ren
  refine wpAny_in_heap (room8 hu) (is_of I rel.sub dd e4) hsm hD ?_
  have e : (atKey vs k).isSome = (dget kd k).isSome := by
    rcases r3.at k with ⟨h1, h2⟩ | ⟨_, _, _, _, h1, h2, _, _⟩ <;> rw [h1, h2] <;> rfl
  rw [e]
  exact ⟨.bl _, H, I.tok _, rfl, kk _ M _ B H q (.refl rel) (.d (.bl _))⟩
theorem opd_notInN (hu : X.A.units + 64 < cLine) : OpR X (compareOp .NotIn) (upR2 (kw X) (rInN true)) := by
  intro pins s σ H x y v u Q I rx ry ⟨B, M, x', y', Q0, rel, r1, r2, ⟨a, kd, k, e1, e2, e3, e4, q⟩, kk⟩
  subst e1
  obtain rfl := rv_ref r2
  obtain ⟨q', rfl, dd⟩ := rv_key r1 e3
  cases rx
  cases ry
  obtain ⟨raw, hH, ren⟩ := rel.dN e2
  obtain ⟨hφ, _⟩ := I.hok a _ hH
  obtain ⟨vs, r3, hD, hsm, hl⟩ := dict_get (φ := dictAt (kw X) a raw) I rel.sub hφ ren
  refine notIn_keyed (room8 hu) (is_of I rel.sub dd e4) hsm ⟨vs, hD, rfl⟩ ?_
  have e : (valueAt (pairsH vs) k).isSome = (dget kd k).isSome := by
    rw [valueAt_pairsH, Option.isSome_map]
    rcases r3.at k with ⟨h1, h2⟩ | ⟨_, _, _, _, h1, h2, _, _⟩ <;> rw [h1, h2] <;> rfl
  rw [e]
  exact ⟨.bl _, H, I.tok _, rfl, kk _ M _ B H q (.refl rel) (.d (.bl _))⟩
/-- len(d) -/
def rLenN : RDL := fun ds M Q => ∃ a kd, ds = [.ref a] ∧ M a = some (.dN kd) ∧ Q (.d (.int kd.length)) M
/-- dict(d): keys apart by their hashes -/
def rDictN (w : World) : RDL := fun ds M Q => ∃ a kd, ds = [.ref a] ∧ M a = some (.dN kd) ∧ ((kd.map fun x => x.1.hash w).Nodup) ∧ ∀ p, M p = none → Q (.ref p) (put M p (.dN kd))
theorem tuple_of {s : Shared} {k : NestedKey} {q : Addr} (h : NestedIs s.heap k (.ref q)) : s.TypeIs (.ref q) "tuple" := by
  cases h with
  | tup h1 h2 h3 h4 => exact ⟨_, h1, h2⟩
theorem cd_dictN (hu : X.A.units + 64 < cLine) : CallR X (.type "dict") (upRL (kw X) (rDictN X.w)) := by
  intro pins s σ H xs us Q I r ⟨B, M, ds, Q0, rel, r1, ⟨a, kd, e1, e2, hap, q⟩, kk⟩
  subst e1
  obtain ⟨v, rfl, r1'⟩ := rv_one r1
  obtain rfl := rv_ref r1'
  obtain ⟨u, rfl, ru⟩ := r.one
  cases ru
  obtain ⟨raw, hH, ren⟩ := rel.dN e2
  obtain ⟨hφ, _⟩ := I.hok a _ hH
  obtain ⟨vs, r3, hD, hsm, hl⟩ := dict_get (φ := dictAt (kw X) a raw) I rel.sub hφ ren
  have hf : H s.heap.objs.size = none := I.hok.fresh (Nat.le_refl _)
  have hk : ∀ b o, s.heap.get? b = some o → (s.heap.push { cls := .type "dict", data := .dict #[] }).get? b = some o := fun b o e => Heap.get?_push_of_some _ e
  have na : s.heap.objs.size ≠ a := by
    obtain ⟨o, _, _, e, _⟩ := hD
    exact Nat.ne_of_gt (Heap.lt_size e)
  refine callType_codes (Q₁ := fun obj s₁ => obj = .ref s.heap.objs.size ∧ s₁ = { s with heap := s.heap.push { cls := .type "dict", data := .dict #[] } }) PySem.F.kt_called_dict (PySem.F.kt_typeCall_dict_1 _) PySem.F.entry_dict_init (kt_code_dict_new _ ⟨rfl, rfl⟩) ?_
  rintro obj s₁ ⟨rfl, rfl⟩
  have hT : Shared.TypeIs { s with heap := s.heap.push { cls := .type "dict", data := .dict #[] } } (.ref s.heap.objs.size) "dict" := ⟨_, Heap.get?_push_size _ rfl, rfl⟩
  refine ⟨hT, PySem.F.args_dict_init_2 _ _, ?_⟩
  unfold Builtin.«dict.__init__» Builtin.Dict.selfAndRest
  refine wpAny_bind (wpAny_bind (wpAny_notOrdered_dict hT ?_))
  show wpAny _ _ (pure (s.heap.objs.size, [Value.ref a])) _ _ _
  refine wpAny_pure ?_
  have hD1 : (s.heap.push { cls := .type "dict", data := .dict #[] }).DictOfH (nestedKind X.prog X.w) a vs := by
    obtain ⟨o, es, ep, f1, f2, f3, f4, f5, f6⟩ := hD
    exact ⟨o, es, ep, hk _ _ f1, f2, f3, f4, fun x hx => ⟨NestedIs.at (fun b o _ _ e _ => hk b o e) _ _ (f5 x hx).1, (f5 x hx).2⟩, f6⟩
  have hkeys : (vs.map fun x => (nestedKind X.prog X.w).hash x.1).Nodup := by
    have e : (vs.map fun x => (nestedKind X.prog X.w).hash x.1) = (vs.map (·.1)).map fun k => k.hash X.w := by rw [List.map_map]; rfl
    have e' : (kd.map fun x => x.1.hash X.w) = (kd.map (·.1)).map fun k => k.hash X.w := by rw [List.map_map]; rfl
    rw [e, r3.keys, ← e']
    exact hap
  refine updateFrom_dictH (A := X.A.in1) .none (by show X.A.units + 1 + 1 + 8 < cLine; omega) na hsm (Heap.DictOfH.new s.heap) hD1 (.inr ⟨fun x hx => ?_, hkeys⟩) ?_ fun h' hD' _ sb => ?_
  · obtain ⟨y, z⟩ := r3.mem x hx
    obtain ⟨o, e1, e2⟩ := tuple_of (is_of I rel.sub y z).1
    exact ⟨o, hk _ _ e1, e2⟩
  · simp only [List.length_nil, Nat.zero_add]
    rw [r3.len]; exact hl
  · have e : storedAllH [] vs = vs := by
      obtain ⟨_, _, _, _, _, _, _, _, nd⟩ := hD
      exact storedAllH_nil_of_nodup vs nd
    rw [e] at hD'
    obtain ⟨raw', ren', y'⟩ := dict_put r3 hD' (beq_eq_false_iff_ne.mpr (Ne.symm (Nat.ne_of_lt I.big))) hl
    have old : ∀ b o, s.heap.get? b = some o → h'.get? b = some o := fun b o e => (sb.2 b (Nat.ne_of_lt (Heap.lt_size e))).trans (hk b o e)
    refine ⟨rfl, .ref s.heap.objs.size, _, I.laid (a := s.heap.objs.size) (o := .ext (dictAt (kw X) s.heap.objs.size raw')) (t' := s.toks) old (Nat.le_refl _) (ext_ok y'), rfl, ?_⟩
    exact kk _ _ _ _ _ (q _ (rel.freshM hf)) (Step.newM rel hf (.n ren')) (.ref _)
theorem cd_lenN : CallR X (.builtin "len") (upRL (kw X) rLenN) := by
  intro pins s σ H xs us Q I r ⟨B, M, ds, Q0, rel, r1, ⟨a, kd, e1, e2, q⟩, kk⟩
  subst e1
  obtain ⟨v, rfl, r1'⟩ := rv_one r1
  obtain rfl := rv_ref r1'
  obtain ⟨u, rfl, ru⟩ := r.one
  cases ru
  obtain ⟨raw, hH, ren⟩ := rel.dN e2
  obtain ⟨hφ, _⟩ := I.hok a _ hH
  obtain ⟨vs, r3, hD, hsm, hl⟩ := dict_get (φ := dictAt (kw X) a raw) I rel.sub hφ ren
  have hs := sizeLine_eq
  refine call_len_dictH hsm hD (by rw [r3.len]; omega) ⟨.int kd.length, H, I.tok _, ⟨_, by rw [r3.len]⟩, kk _ M _ B H q (.refl rel) (.d (.int _))⟩
theorem cd_or {f : Value} {r r' : RDL} (h : CallR X f (upRL (kw X) r)) (h' : CallR X f (upRL (kw X) r')) : CallR X f (upRL (kw X) fun ds M Q => r ds M Q ∨ r' ds M Q) := by
  intro pins s σ H xs us Q I rr ⟨B, M, ds, Q0, rel, r1, q, kk⟩
  rcases q with q | q
  · exact h pins s σ H xs us Q I rr ⟨B, M, ds, Q0, rel, r1, q, kk⟩
  · exact h' pins s σ H xs us Q I rr ⟨B, M, ds, Q0, rel, r1, q, kk⟩
theorem ixd_or {r r' : RD2} (h : IxR X (upR2 (kw X) r)) (h' : IxR X (upR2 (kw X) r')) : IxR X (upR2 (kw X) fun x y M Q => r x y M Q ∨ r' x y M Q) := by
  intro value slice pins s σ H x y v u Q I rx ry ⟨B, M, d, e, Q0, rel, r1, r2, q, k⟩ hs
  rcases q with q | q
  · exact h value slice pins s σ H x y v u Q I rx ry ⟨B, M, d, e, Q0, rel, r1, r2, q, k⟩ hs
  · exact h' value slice pins s σ H x y v u Q I rx ry ⟨B, M, d, e, Q0, rel, r1, r2, q, k⟩ hs
theorem opd_or {f : Value → Value → Sem Value} {r r' : RD2} (h : OpR X f (upR2 (kw X) r)) (h' : OpR X f (upR2 (kw X) r')) : OpR X f (upR2 (kw X) fun x y M Q => r x y M Q ∨ r' x y M Q) := by
  intro pins s σ H x y v u Q I rx ry ⟨B, M, d, e, Q0, rel, r1, r2, q, k⟩
  rcases q with q | q
  · exact h pins s σ H x y v u Q I rx ry ⟨B, M, d, e, Q0, rel, r1, r2, q, k⟩
  · exact h' pins s σ H x y v u Q I rx ry ⟨B, M, d, e, Q0, rel, r1, r2, q, k⟩
end

/-! ### methods of such a dict -/
section
variable {X : Cx} {o e : Expr} {es : List Expr} {to : TDE} {t : TDA} {name : Str} {id : String} {apos cpos : Pos} {rm : RDM}
def isDN (x : DV) (M : DM) : Prop := ∃ a, x = .ref a ∧ ∃ kd, M a = some (.dN kd)
theorem de_bmN (slot : Slot "dict" name id) (hty : typeOf (.builtin id) = pure (.type "method_descriptor")) (hm : MtR X id (upRM (kw X) rm)) (ho : DE X o to) (ha : DA X (e :: es) t)
    (hbase : attributeBase o name X.env (eval o X.env) = eval o X.env := by rfl)
    (few : ((backTo cpos (starEach (e :: es) X.env)).all (fun x => !x.1) && (backToKw cpos (keywordEach [] X.env)).all (fun x => x.1.isSome) && decide ((e :: es).length + ([] : List Keyword).length + (if ([] : List Keyword).isEmpty then 0 else 1) < 30)) = true := by rfl)
    (line : (apos.endLine == cpos.line) = true := by rfl) (st1 : starEach (e :: es) X.env = (false, eval e X.env) :: starEach es X.env := by rfl) (st2 : (backTo cpos (starEach es X.env)).any (·.1) = false := by rfl) :
    DE X (.Call (.Attribute o name apos) (e :: es) [] cpos) (dBM isDN rm to t) := ⟨fun pins s σ H Q I ⟨B, M, ρ, Q0, rel, re, h, k⟩ => by
  refine wpAny_Call_method_late hbase few line rfl (thn (ho.run pins s σ H (fun x H1 => ∃ B1 M1 d, Step (kw X) B M H B1 M1 H1 ∧ RV (kw X) B1 x d ∧ isDN d M1 ∧ t ρ M1 fun xs M2 => rm d xs M2 Q0) I ⟨B, M, ρ, _, rel, re, h, fun d M1 v B1 H1 q st r => ⟨B1, M1, d, st, r, q.1, q.2⟩⟩) fun v s1 ⟨x, H1, I1, r1, B1, M1, d, st, rd, ⟨a, e1, kd, e2⟩, q1⟩ => ?_)
  subst e1
  obtain rfl := rv_ref rd
  obtain rfl : v = Value.ref a := r1
  obtain ⟨raw, hH, ren⟩ := st.to.dN e2
  obtain ⟨⟨_, _, _, ob, es', ep', vs', f1, f2, _⟩, _⟩ := I1.hok a _ hH
  refine ⟨"dict", id, PySem.F.plainAttrs_dict, slot, hty, ⟨ob, f1, f2.1⟩, fun b q => by cases q; exact ⟨ob, f1, f2.2.1⟩, ?_⟩
  have hA := ha.run cpos pins s1 σ H1 (fun vs H2 => upRM (kw X) rm (.ref a) vs H2 Q) I1 ⟨B1, M1, ρ, _, st.to, re.mono st.same, q1, fun xs M2 vs B2 H2 q2 s2 r2 => ⟨B2, M2, _, xs, Q0, s2.to, .ref a, r2, q2, (k.step st).step s2⟩⟩
  rw [st1] at hA ⊢
  refine Calls.callWith_builtin (by show (false || (backTo cpos (starEach es X.env)).any (·.1)) = false; rw [st2] <;> rfl) (Calls.evalArgs_plain ?_)
  exact thn hA fun us s2 ⟨vs, H2, I2, r2, q2⟩ => hm pins s2 σ H2 (.ref a) vs _ us Q I2 rfl r2 q2⟩
end
section
variable {X : Cx}
/-- d.update(d2) -/
def rUpdN (w : World) : RDM := fun x ds M Q => ∃ a kd b kd2, x = .ref a ∧ ds = [.ref b] ∧ M a = some (.dN kd) ∧ M b = some (.dN kd2) ∧ a ≠ b ∧ (kd ≠ [] ∨ (kd2.map fun x => x.1.hash w).Nodup) ∧ kd.length + kd2.length ≤ sizeLine ∧ Q (.d .none) (put M a (.dN (dmerge kd kd2)))
theorem dmerge_len : ∀ (more kd : List (NestedKey × DV)), (dmerge kd more).length ≤ kd.length + more.length
  | [], kd => Nat.le_refl _
  | x :: more, kd => by
    have h1 := dmerge_len more (dput kd x.1 x.2)
    have h2 := dput_len kd x.1 x.2
    show (dmerge (dput kd x.1 x.2) more).length ≤ _
    simp only [List.length_cons]
    omega
theorem mtd_update (hu : X.A.units + 64 < cLine) : MtR X "dict.update" (upRM (kw X) (rUpdN X.w)) := by
  intro pins s σ H x xs v us Q I rx rv ⟨B, M, d, ds, Q0, rel, r1, r2, ⟨a, kd, b, kd2, e1, e2, e3, e4, ne, hap, hz, q⟩, kk⟩
  subst e1
  subst e2
  obtain rfl := rv_ref r1
  obtain ⟨y, rfl, r2'⟩ := rv_one r2
  obtain rfl := rv_ref r2'
  cases rx
  obtain ⟨u, rfl, ru⟩ := rv.one
  cases ru
  obtain ⟨raw, hH, ren⟩ := rel.dN e3
  obtain ⟨raw2, hH2, ren2⟩ := rel.dN e4
  obtain ⟨hφ, _⟩ := I.hok a _ hH
  obtain ⟨hφ2, _⟩ := I.hok b _ hH2
  obtain ⟨vs, r3, hD, hsm, hl⟩ := dict_get (φ := dictAt (kw X) a raw) I rel.sub hφ ren
  obtain ⟨vs2, r4, hD2, hsm2, hl2⟩ := dict_get (φ := dictAt (kw X) b raw2) I rel.sub hφ2 ren2
  have cond : vs ≠ [] ∨ ((∀ x ∈ vs2, s.TypeIs (.ref x.2.1) "tuple") ∧ (vs2.map fun x => (nestedKind X.prog X.w).hash x.1).Nodup) := by
    rcases hap with h | h
    · refine .inl fun z => h ?_
      have := r3.len
      rw [z] at this
      exact List.length_eq_zero_iff.mp this.symm
    · refine .inr ⟨fun x hx => ?_, ?_⟩
      · obtain ⟨y, z⟩ := r4.mem x hx
        exact tuple_of (is_of I rel.sub y z).1
      · have e : (vs2.map fun x => (nestedKind X.prog X.w).hash x.1) = (vs2.map (·.1)).map fun k => k.hash X.w := by rw [List.map_map]; rfl
        have e' : (kd2.map fun x => x.1.hash X.w) = (kd2.map (·.1)).map fun k => k.hash X.w := by rw [List.map_map]; rfl
        rw [e, r4.keys, ← e']
        exact h
  refine call_update_dictH (room8 hu) ne hsm2 hD hD2 cond (by rw [r3.len, r4.len]; exact hz) fun h' hD' _ sb => ?_
  obtain ⟨raw', ren', y'⟩ := dict_put (r4.merge r3) hD' hsm (Nat.le_trans (dmerge_len _ _) hz)
  exact ⟨.non, _, Inv.dictW (tk := s.toks) I hH sb y', rfl, kk _ _ _ _ _ q (Step.mut rel e3 rfl (.n ren')) (.d .non)⟩
/-- d.get(k, x) -/
def rGet2N : RDM := fun x ds M Q => ∃ a kd y z k, x = .ref a ∧ ds = [y, z] ∧ M a = some (.dN kd) ∧ keyOf y = some k ∧ k.depth ≤ 8 ∧ Q ((dget kd k).getD z) M
theorem mtd_get2 (hu : X.A.units + 64 < cLine) : MtR X "dict.get" (upRM (kw X) rGet2N) := by
  intro pins s σ H x xs v us Q I rx rv ⟨B, M, d, ds, Q0, rel, r1, r2, ⟨a, kd, y, z, k, e1, e2, e3, e4, e5, q⟩, kk⟩
  subst e1
  subst e2
  obtain rfl := rv_ref r1
  obtain ⟨yv, zv, rfl, r2', r3'⟩ := rv_two r2
  obtain ⟨q', rfl, dd⟩ := rv_key r2' e4
  cases rx
  obtain ⟨u, u2, rfl, ru, ru2⟩ := rv.two
  cases ru
  obtain ⟨raw, hH, ren⟩ := rel.dN e3
  obtain ⟨hφ, _⟩ := I.hok a _ hH
  obtain ⟨vs, r3, hD, hsm, hl⟩ := dict_get (φ := dictAt (kw X) a raw) I rel.sub hφ ren
  refine getOr_keyed (room8 hu) (is_of I rel.sub dd e5) hsm ⟨vs, hD, rfl⟩ ?_
  rw [valueAt_pairsH]
  rcases r3.at k with ⟨h1, h2⟩ | ⟨q2, u3, v3, d3, h1, h2, h3, h4⟩
  · rw [h2] at q
    rw [h1]
    exact ⟨zv, H, I.tok _, ru2, kk _ M _ B H q (.refl rel) r3'⟩
  · rw [h2] at q
    rw [h1]
    exact ⟨v3, H, I.tok _, h3, kk _ M _ B H q (.refl rel) h4⟩
/-- d.setdefault(k, x) -/
def rSetDefN : RDM := fun x ds M Q => ∃ a kd y z k, x = .ref a ∧ ds = [y, z] ∧ M a = some (.dN kd) ∧ keyOf y = some k ∧ k.depth ≤ 8 ∧ kd.length < sizeLine ∧ (match dget kd k with
  | some d => Q d M
  | none => Q z (put M a (.dN (dput kd k z))))
theorem mtd_setdefault (hu : X.A.units + 64 < cLine) : MtR X "dict.setdefault" (upRM (kw X) rSetDefN) := by
  intro pins s σ H x xs v us Q I rx rv ⟨B, M, d, ds, Q0, rel, r1, r2, ⟨a, kd, y, z, k, e1, e2, e3, e4, e5, e6, q⟩, kk⟩
  subst e1
  subst e2
  obtain rfl := rv_ref r1
  obtain ⟨yv, zv, rfl, r2', r3'⟩ := rv_two r2
  obtain ⟨q', rfl, dd⟩ := rv_key r2' e4
  cases rx
  obtain ⟨u, u2, rfl, ru, ru2⟩ := rv.two
  cases ru
  obtain ⟨raw, hH, ren⟩ := rel.dN e3
  obtain ⟨hφ, _⟩ := I.hok a _ hH
  obtain ⟨vs, r3, hD, hsm, hl⟩ := dict_get (φ := dictAt (kw X) a raw) I rel.sub hφ ren
  refine call_setdefault_heap (hsz := by rw [r3.len]; exact hl) (room8 hu) (is_of I rel.sub dd e5) hsm hD (fun p hp => ?_) fun hn h' hD' sb => ?_
  · rcases r3.at k with ⟨h1, h2⟩ | ⟨q2, u3, v3, d3, h1, h2, h3, h4⟩
    · rw [hp] at h1; cases h1
    · rw [hp] at h1; cases h1
      rw [h2] at q
      exact ⟨v3, H, I.tok _, h3, kk _ M _ B H q (.refl rel) h4⟩
  · rcases r3.at k with ⟨h1, h2⟩ | ⟨q2, u3, v3, d3, h1, h2, h3, h4⟩
    · rw [h2] at q
      have rr' := r3.put dd e5 ru2 r3'
      obtain ⟨raw', ren', y'⟩ := dict_put rr' hD' hsm (Nat.le_trans (dput_len _ _ _) e6)
      have st := Step.mut rel e3 rfl (h := .ext (dictAt (kw X) a raw')) (.n ren')
      exact ⟨zv, _, Inv.dictW I hH sb y', ru2, kk _ _ _ _ _ q st (r3'.mono st.same)⟩
    · rw [hn] at h1; cases h1
end

/-! ### a dict that is walked -/
section
variable {X : Cx}
def dLockE (t : TDE) : TDE := fun ρ M Q => ∃ a kd, M a = some (.dN kd) ∧ t ρ (put M a (.roN kd)) fun d M' => M' a = some (.roN kd) ∧ Q d (put M' a (.dN kd))
/-- behind the walk -/
theorem unlock {K : Kw} {B B' : Hp} {M M' : DM} {H H' : Hp} {a : Addr} {kd : List (NestedKey × DV)} {raw : List (NestedKey × Addr × V)} {od : Obj} (rel : Rel K B M H) (e : M a = some (.dN kd)) (hH : H a = some (.ext (dictAt K a raw))) (ren : REN K B raw kd)
    (s : Step K B (put M a (.roN kd)) (upd H a (.frz od (.ext (dictAt K a raw)))) B' M' H') (e' : M' a = some (.roN kd)) : Step K B M H B' (put M' a (.dN kd)) (upd H' a (.ext (dictAt K a raw))) := by
  obtain ⟨b0, _⟩ := s.to.rel a _ e'
  refine ⟨s.same, ⟨fun b u q => ?_, fun c u q => ?_⟩, fun c u h1 h2 h3 => ?_, fun c h => ?_, fun c ob u h => ?_⟩
  · have ne : b ≠ a := fun z => by subst z; rw [b0] at q; cases q
    rw [upd_ne ne]; exact s.to.sub _ _ q
  · by_cases z : c = a
    · subst z
      rw [put_same] at q; cases q
      exact ⟨b0, _, upd_same, .n (ren.mono s.same)⟩
    · rw [put_ne z] at q
      obtain ⟨x, h, y, w⟩ := s.to.rel c u q
      exact ⟨x, h, by rw [upd_ne z]; exact y, w⟩
  · have ne : c ≠ a := fun z => by subst z; rw [e] at h2; cases h2
    obtain ⟨x, y, w⟩ := s.frame c u (by rw [upd_ne ne]; exact h1) (by rw [put_ne ne]; exact h2) h3
    exact ⟨by rw [upd_ne ne]; exact x, by rw [put_ne ne]; exact y, w⟩
  · have h' := s.grow c (upd_none h)
    exact upd_none h'
  · have ne : c ≠ a := fun z => by subst z; rw [hH] at h; cases h
    rw [upd_ne ne]
    exact s.frz c ob u (by rw [upd_ne ne]; exact h)
theorem de_lock {e : Expr} {t : TDE} (h : DE X e t) : DE X e (dLockE t) := pe_imp (pe_lock h) fun σ H Q ⟨B, M, ρ, Q0, rel, re, ⟨a, kd, ea, h⟩, k⟩ => by
  obtain ⟨raw, hH, ren⟩ := rel.dN ea
  refine ⟨a, _, hH, trivial, fun od => ?_⟩
  have st := Step.mut rel ea rfl (h := .frz od (.ext (dictAt (kw X) a raw))) (o := .roN kd) (.f ren)
  refine ⟨B, _, ρ, _, st.to, re, h, ?_⟩
  rintro d M' v B' H' ⟨e', q⟩ s r
  exact ⟨s.frz a _ _ upd_same, k _ _ _ _ _ q (unlock rel ea hH ren s e') r⟩
def dLockS (t : TDS) : TDS := fun E ρ M => ∃ a kd, M a = some (.dN kd) ∧ t { nx := fun ρ' M' => M' a = some (.roN kd) ∧ E.nx ρ' (put M' a (.dN kd)), rt := fun d M' => M' a = some (.roN kd) ∧ E.rt d (put M' a (.dN kd)), bk := fun ρ' M' => M' a = some (.roN kd) ∧ E.bk ρ' (put M' a (.dN kd)), ct := fun ρ' M' => M' a = some (.roN kd) ∧ E.ct ρ' (put M' a (.dN kd)) } ρ (put M a (.roN kd))
theorem ds_lock {st : Stmt} {t : TDS} (h : DS X st t) : DS X st (dLockS t) := ps_imp (ps_lock h) fun D σ H ⟨B, M, ρ, E0, rel, re, ⟨a, kd, ea, h⟩, c⟩ => by
  obtain ⟨raw, hH, ren⟩ := rel.dN ea
  refine ⟨a, _, hH, trivial, fun od => ?_⟩
  have st := Step.mut rel ea rfl (h := .frz od (.ext (dictAt (kw X) a raw))) (o := .roN kd) (.f ren)
  exact ⟨B, _, ρ, _, st.to, re, h, ⟨fun ρ' M' σ' B' H' ⟨e', q⟩ s r => ⟨s.frz a _ _ upd_same, c.nx _ _ _ _ _ q (unlock rel ea hH ren s e') r⟩, fun d M' v B' H' ⟨e', q⟩ s r => ⟨s.frz a _ _ upd_same, c.rt _ _ _ _ _ q (unlock rel ea hH ren s e') r⟩,
    fun ρ' M' σ' B' H' ⟨e', q⟩ s r => ⟨s.frz a _ _ upd_same, c.bk _ _ _ _ _ q (unlock rel ea hH ren s e') r⟩, fun ρ' M' σ' B' H' ⟨e', q⟩ s r => ⟨s.frz a _ _ upd_same, c.ct _ _ _ _ _ q (unlock rel ea hH ren s e') r⟩⟩⟩
/-- the keys of the locked dict at d: each the key's own tuple -/
def ItN (d : Addr) (o : Obj) (K : Kw) (raw : List (NestedKey × Addr × V)) : It :=
  ⟨fun i H => H d = some (.frz o (.ext (dictAt K d raw))) ∧ i < raw.length, fun i H x H' => H' = H ∧ ∃ y, raw[i]? = some y ∧ x = .ref y.2.1, fun i H => H d = some (.frz o (.ext (dictAt K d raw))) ∧ raw.length ≤ i⟩
theorem frzN {pins : List (Addr × Obj)} {σ : L2.St} {H : Hp} {s : Shared} {d : Addr} {o : Obj} {K : Kw} {raw : List (NestedKey × Addr × V)} (I : Inv X pins σ H s) (h : H d = some (.frz o (.ext (dictAt K d raw)))) :
    (d == sysModules) = false ∧ s.heap.get? d = some o ∧ o.ExactDict ∧ ∃ (es : Array DictEntry) (ep : Nat), o.data = .dict es ep ∧ es.size = raw.length ∧ ∀ (i : Nat) (x : NestedKey × Addr × V), raw[i]? = some x → ∃ en, es[i]? = some en ∧ en.key = .ref x.2.1 := by
  obtain ⟨hd, ⟨h1, h2, h3, o', es, ep, vs, e1, e2, e3, pr, e4⟩, _⟩ := I.hok d _ h
  rw [hd] at e1
  cases e1
  have l1 : es.size = vs.length := size_of_entries e4
  have l2 : raw.length = vs.length := Paired.length pr
  refine ⟨h1, hd, e2, es, ep, e3, by omega, fun i x hr => ?_⟩
  have en := entry_at (knd := nestedKind K.P K.w) e4 i
  have go : ∀ {raw : List (NestedKey × Addr × V)} {vs : List (NestedKey × Addr × Value)} {i : Nat} {x : NestedKey × Addr × V}, Paired (fun p q => p.1 = q.1 ∧ p.2.1 = q.2.1 ∧ RelV p.2.2 q.2.2) raw vs → raw[i]? = some x → ∃ y : NestedKey × Addr × Value, vs[i]? = some y ∧ x.2.1 = y.2.1 := by
    intro raw vs i x p
    induction p generalizing i with
    | nil => intro h; simp at h
    | cons a b ih =>
      cases i with
      | zero => intro h; simp at h; subst h; exact ⟨_, rfl, a.2.1⟩
      | succ i =>
        intro h
        obtain ⟨y, e1, e2⟩ := ih (i := i) (by simpa using h)
        exact ⟨y, by rw [List.getElem?_cons_succ]; exact e1, e2⟩
  obtain ⟨y, hy, z⟩ := go pr hr
  rw [hy] at en
  exact ⟨_, en, by rw [z]; rfl⟩
theorem turn_N {P : Program} {w : World} {K : PySem.W.Frag} {tg : Expr} {d : Addr} {o : Obj} {es : Array DictEntry} {ep : Nat} {Z : Kw} {raw : List (NestedKey × Addr × V)} (it : Addr) (hod : o.data = .dict es ep) : Turn P w K tg (ItN d o Z raw) [it] it (fun i h => h.IsKeyIter it d i raw.length ep) where
  mem := by simp
  obj := fun i h st b hb => by
    obtain rfl : b = it := by simpa using hb
    obtain ⟨oi, e, c, dd⟩ := st
    exact ⟨oi, e, fun v z => by rw [dd] at z; cases z⟩
  keep := fun i h h' st k => st.at fun oi e => k it (by simp) oi e
  item := by
    intro X e1 e2 e3 hc i pins s σ H E I hf st hgo
    subst e1 e2 e3
    obtain ⟨hd, hi⟩ := hgo
    obtain ⟨f0, f1, f2, f3, f4, f5⟩ := hf it (by simp)
    obtain ⟨hs, hgd, hx, es', ep', hdt, hsz, ent⟩ := frzN I hd
    obtain ⟨rfl, rfl⟩ := dict_ep hod hdt
    obtain ⟨en, hen, hkey⟩ := ent i raw[i] (by simp [hi])
    refine next_key_item st hgd hdt hsz hen fun h' st' sb => ?_
    have I1 : Inv X pins σ H { s with heap := h' } := I.turned (t' := s.toks) (fun b ob hb e => (sb.2 b hb).trans e) f0 f1 f3 f4 f5
    obtain ⟨oi, e, c, dd⟩ := id st'
    exact ⟨en.key, rfl, go_of (s := { s with heap := h' }) e c dd (by decide) ⟨.ref raw[i].2.1, H, I1, hkey, ⟨rfl, raw[i], by simp [hi], rfl⟩, st', fun b hb => (hf b hb).1⟩⟩
  done := by
    intro X e1 e2 e3 hc i pins s σ H E I hf st hgo
    subst e1 e2 e3
    obtain ⟨hd, hi⟩ := hgo
    obtain ⟨f0, f1, f2, f3, f4, f5⟩ := hf it (by simp)
    obtain ⟨hs, hgd, hx, es', ep', hdt, hsz, ent⟩ := frzN I hd
    obtain ⟨rfl, rfl⟩ := dict_ep hod hdt
    exact next_key_end (I.ok.hd hc) st hgd hdt hsz hi fun h' eb => ⟨rfl, I.turned (t' := s.toks) (fun b o hb e => eb b o hb e) f0 f1 f3 f4 f5⟩
  self := fun A i s Q E st h => by
    refine wpAny_pyIter_slot st.typeIs PySem.F.slot_dict_keyiterator_iter (wpAny_call_entry PySem.F.slot_dict_keyiterator_iter st.typeIs PySem.F.entry_dict_keyiterator_iter ?_ (PySem.F.args_dict_keyiterator_iter_1 _))
    show wpAny _ _ (ret (.ref it)) _ _ s
    exact wpAny_pure ⟨_, rfl, "dict_keyiterator", _, st.typeIs, PySem.F.slot_dict_keyiterator_next.lookup, h⟩
/-- for k in d (d is locked) -/
def dKeysN (td : TDE) : TDI := fun ρ M Q => td ρ M fun x M1 => ∃ a kd, x = .ref a ∧ M1 a = some (.roN kd) ∧ Q (kd.map fun y => DV.d y.1.data) (fun M' => M' a = some (.roN kd)) M1
theorem REN.getK {K : Kw} {B : Hp} : ∀ {raw : List (NestedKey × Addr × V)} {kd : List (NestedKey × DV)} {i : Nat} {x : NestedKey × Addr × V}, REN K B raw kd → raw[i]? = some x → ∃ d, kd[i]? = some (x.1, d) ∧ DD K B (.ref x.2.1) x.1.data
  | _, _, i, x, .nil, e => by simp at e
  | _, _, 0, x, .cons a b c t, e => by simp at e; subst e; exact ⟨_, rfl, a⟩
  | _, _, i + 1, x, .cons a b c t, e => by
    obtain ⟨d, h⟩ := REN.getK (i := i) t (by simpa using e)
    exact ⟨d, by simpa using h⟩
theorem di_keysN {tg l : Expr} {td : TDE} (hl : DE X l td) : DI X tg l (dKeysN td) := ⟨fun pins s σ H R I ⟨B, M, ρ, Q0, rel, re, h, k⟩ => by
  refine thn (hl.run pins s σ H (fun x H1 => ∃ B1 M1 a kd, x = .ref a ∧ Step (kw X) B M H B1 M1 H1 ∧ M1 a = some (.roN kd) ∧ Q0 (kd.map fun y => DV.d y.1.data) (fun M' => M' a = some (.roN kd)) M1) I
    ⟨B, M, ρ, _, rel, re, h, fun d M1 v B1 H1 ⟨a, kd, e1, e2, q⟩ st r => ⟨B1, M1, a, kd, by subst e1; exact rv_ref r, st, e2, q⟩⟩) fun u s1 ⟨x, H1, I1, rx, B1, M1, a, kd, ex, st, ea, q⟩ => ?_
  subst ex
  obtain rfl : u = Value.ref a := rx
  obtain ⟨h0, hH, ro⟩ := st.to.get ea
  obtain ⟨ob, raw, rfl, ren⟩ := ro.roN
  obtain ⟨hs, hgd, hx, es, ep, hdt, hsz, ent⟩ := frzN I1 hH
  refine iter_keys hs hgd hx hdt (pi_one (tk := s1.toks) (J := ItN a ob (kw X) raw) I1 _ (turn_N _ hdt) ⟨_, Heap.get?_push_size _ rfl, rfl, by rw [hsz] <;> rfl⟩ ?_)
  have hl := ren.length
  refine k _ _ M1 B1 H1 _ q st ⟨fun B' M' H' i sm fz rel' e hi => ?_, fun B' M' H' i sm fz rel' e hi => ?_⟩
  · rw [List.length_map, ← hl] at hi
    refine ⟨⟨fz a _ _ hH, hi⟩, fun x H'' ⟨e1, y, e2, e3⟩ => ?_⟩
    subst e1
    subst e3
    obtain ⟨d, h1, h2⟩ := ren.getK e2
    exact ⟨B', _, by rw [List.getElem?_map, h1]; rfl, .refl rel', .d (dp_mono sm _ _ h2)⟩
  · rw [List.length_map, ← hl] at hi
    exact ⟨fz a _ _ hH, hi⟩⟩
end
end DL

set_option Elab.async false
set_option linter.all false
set_option maxRecDepth 100000
set_option maxHeartbeats 4000000
namespace DL
open PySem L2 PyProof.Rows

/-! ### methods of lists -/
section
variable {X : Cx}
def rAppendD : RDM := fun x ds M Q => ∃ a xs y, x = .ref a ∧ ds = [y] ∧ M a = some (.lst xs) ∧ xs.length < sizeLine ∧ Q (.d .none) (put M a (.lst (xs ++ [y])))
theorem mtd_append : MtR X "list.append" (upRM (kw X) rAppendD) := by
  intro pins s σ H x xs v us Q I rx rv ⟨B, M, d, ds, Q0, rel, r1, r2, ⟨a, ys, y, e1, e2, e3, e4, q⟩, kk⟩
  subst e1
  subst e2
  obtain rfl := rv_ref r1
  obtain ⟨yv, rfl, r2'⟩ := rv_one r2
  obtain ⟨h, hh, ro⟩ := rel.get e3
  obtain ⟨vs, rfl, w⟩ := ro.lst
  exact mt_append pins s σ H _ _ v us Q I rx rv ⟨a, vs, yv, rfl, rfl, hh, by rw [w.length]; exact e4, kk _ _ _ _ _ q (Step.mut rel e3 rfl (.l (w.append (.cons r2' .nil)))) (.d .non)⟩
def rExtendD : RDM := fun x ds M Q => ∃ a xs y ys, x = .ref a ∧ ds = [y] ∧ M a = some (.lst xs) ∧ lstOf M y = some ys ∧ xs.length + ys.length ≤ sizeLine ∧ Q (.d .none) (put M a (.lst (xs ++ ys)))
theorem mtd_extend : MtR X "list.extend" (upRM (kw X) rExtendD) := by
  intro pins s σ H x xs v us Q I rx rv ⟨B, M, d, ds, Q0, rel, r1, r2, ⟨a, ys, y, zs, e1, e2, e3, e5, e4, q⟩, kk⟩
  subst e1
  subst e2
  obtain rfl := rv_ref r1
  obtain ⟨yv, rfl, r2'⟩ := rv_one r2
  obtain ⟨h, hh, ro⟩ := rel.get e3
  obtain ⟨vs, rfl, w⟩ := ro.lst
  obtain ⟨b, us', rfl, s2, w2⟩ := rv_lst rel r2' (lstOf_or e5)
  exact mt_extend pins s σ H _ _ v us Q I rx rv ⟨a, b, vs, us', rfl, rfl, hh, s2, by rw [w.length, w2.length]; exact e4, kk _ _ _ _ _ q (Step.mut rel e3 rfl (.l (w.append w2))) (.d .non)⟩
theorem RVs.dropLast {K : Kw} {B : Hp} {vs : List V} {ds : List DV} (r : RVs K B vs ds) : RVs K B vs.dropLast ds.dropLast := by
  rw [List.dropLast_eq_take, List.dropLast_eq_take, r.length]
  exact r.take _
theorem RVs.eraseIdx {K : Kw} {B : Hp} : ∀ {vs : List V} {ds : List DV} (i : Nat), RVs K B vs ds → RVs K B (vs.eraseIdx i) (ds.eraseIdx i)
  | _, [], i, h => by cases h; exact .nil
  | _, d :: ds, i, h => by
    cases h with
    | cons h1 h2 =>
      cases i with
      | zero => exact h2
      | succ i => exact .cons h1 (RVs.eraseIdx i h2)
/-- xs.pop(i) -/
def rPopAtD : RDM := fun x ds M Q => ∃ a xs i k y, x = .ref a ∧ ds = [.d (.int i)] ∧ M a = some (.lst xs) ∧ -(2 ^ 63) ≤ i ∧ i < 2 ^ 63 ∧ seqIndex? i xs.length = some k ∧ xs[k]? = some y ∧ Q y (put M a (.lst (xs.eraseIdx k)))
theorem mtd_popAt : MtR X "list.pop" (upRM (kw X) rPopAtD) := by
  intro pins s σ H x xs v us Q I rx rv ⟨B, M, d, ds, Q0, rel, r1, r2, ⟨a, ys, i, k, y, e1, e2, e3, e4, e5, e6, e7, q⟩, kk⟩
  subst e1
  subst e2
  obtain rfl := rv_ref r1
  obtain ⟨yv, rfl, r2'⟩ := rv_one r2
  obtain rfl := rv_int r2'
  obtain ⟨h, hh, ro⟩ := rel.get e3
  obtain ⟨vs, rfl, w⟩ := ro.lst
  obtain ⟨z, hz, rz⟩ := w.get e7
  have st := Step.mut rel e3 rfl (h := .lst (vs.eraseIdx k)) (o := .lst (ys.eraseIdx k)) (.l (w.eraseIdx k))
  exact mt_popAt pins s σ H _ _ v us Q I rx rv ⟨a, vs, i, k, z, rfl, rfl, hh, e4, e5, by rw [w.length]; exact e6, hz, kk _ _ _ _ _ q st (rz.mono st.same)⟩
theorem rd_list {M : DM} : ∀ (n : Nat) (x : DV) (zs : List PyData), rd n M x = some (.list zs) → isLst x M := by
  intro n x zs h
  cases x with
  | d y => cases n with
    | zero => simp only [rd] at h; exact .inr ⟨zs, by rw [Option.some.inj h]⟩
    | succ n => simp only [rd] at h; exact .inr ⟨zs, by rw [Option.some.inj h]⟩
  | ref a => cases n with
    | zero => simp [rd] at h
    | succ n =>
      simp only [rd] at h
      split at h
      · exact .inl ⟨a, rfl, _, ‹_›⟩
      · simp at h
  | tp xs => cases n with
    | zero => simp [rd] at h
    | succ n =>
      simp only [rd] at h
      cases e : allSome (xs.map (rd n M)) with
      | none => rw [e] at h; simp at h
      | some u => rw [e] at h; simp at h
/-- xs.count(x) of data -/
def rCountD : RDM := fun x ds M Q => ∃ y xs b, ds = [y] ∧ rd 3 M x = some (.list xs) ∧ rd 3 M y = some b ∧ SeqAt.shaped (.list xs) = true ∧ SeqAt.shaped b = true ∧ Q (.d (.int ((xs.countP fun z => PyData.eqv z b : Nat) : Int))) M
theorem mtd_count (hu : X.A.units + 65 < cLine) : MtR X "list.count" (upRM (kw X) rCountD) := by
  intro pins s σ H x xs v us Q I rx rv ⟨B, M, d, ds, Q0, rel, r1, r2, ⟨y, zs, b, e2, e3, e4, e5, e6, q⟩, kk⟩
  subst e2
  obtain ⟨yv, rfl, r2'⟩ := rv_one r2
  have d1 := dp_of_rd rel 3 _ _ _ r1 e3
  have d2 := dp_of_rd rel 3 _ _ _ r2' e4
  obtain ⟨uy, rfl, ry⟩ := rv.one
  obtain ⟨bs, w2⟩ := Dp.reads I b yv uy d2 ry
  have hxs : PyData.canLayAll0 zs = true := SeqAt.canLay_of_shaped e5
  have hroom : X.A.units + 1 + min (PyData.depthAll zs) b.depth < cLine := room_in_shaped e6 hu
  cases d1 with
  | lst hs ha =>
    rename_i a vs
    obtain rfl : v = Value.ref a := rx
    obtain ⟨its, rv', ⟨⟨cls, dd, data, sls⟩, m, ho, hc, hdn, hdt⟩, hlen⟩ := I.list hs
    simp only at hc hdt
    subst hc hdt
    obtain ⟨as, h4⟩ := Dp.readsAll I zs _ its ha rv'
    have hmap : its.map (SeqAt.readOf s.heap) = zs := SeqAt.readsAll_map zs its as hxs h4
    have hcnt : its.toArray.toList.countP (fun u => PyData.eqv (SeqAt.readOf s.heap u) b) = zs.countP fun z => PyData.eqv z b := by
      rw [← hmap, List.countP_map]
      rfl
    refine call_meets PySem.F.slot_list_count ⟨_, ho, rfl⟩ PySem.F.entry_list_count (PySem.F.args_list_count_2 _ _)
      (SeqAt.list_countAt a its.toArray m dd sls uy (fun u => PyData.eqv (SeqAt.readOf s.heap u) b)) ⟨ho, SeqAt.items_eqAt (vs := its.toArray) (show ReadsAll s.heap its.toArray.toList zs as from h4) w2 hxs (SeqAt.canLay_of_shaped e6) hroom, ?_⟩
    rw [hcnt]
    exact ⟨.int _, H, I.tok _, ⟨_, rfl⟩, kk _ _ _ _ _ q (.refl rel) (.d (.int _))⟩
/-- xs.index(x) of data -/
def rIndexDD : RDM := fun x ds M Q => ∃ y xs b j z, ds = [y] ∧ rd 3 M x = some (.list xs) ∧ rd 3 M y = some b ∧ SeqAt.shaped (.list xs) = true ∧ SeqAt.shaped b = true ∧ xs[j]? = some z ∧ PyData.eqv z b = true ∧ (∀ m z', m < j → xs[m]? = some z' → PyData.eqv z' b = false) ∧ Q (.d (.int (j : Nat))) M
theorem mtd_index (hu : X.A.units + 65 < cLine) : MtR X "list.index" (upRM (kw X) rIndexDD) := by
  intro pins s σ H x xs v us Q I rx rv ⟨B, M, d, ds, Q0, rel, r1, r2, ⟨y, zs, b, j, z, e2, e3, e4, e5, e6, e7, e8, e9, q⟩, kk⟩
  subst e2
  obtain ⟨yv, rfl, r2'⟩ := rv_one r2
  have d1 := dp_of_rd rel 3 _ _ _ r1 e3
  have d2 := dp_of_rd rel 3 _ _ _ r2' e4
  cases d1 with
  | lst hs ha =>
    rename_i a vs
    exact mt_indexD hu pins s σ H _ _ v us Q I rx rv ⟨a, yv, b, zs, j, z, rfl, rfl, .lst hs ha, d2, e5, e6, e7, e8, e9, kk _ _ _ _ _ q (.refl rel) (.d (.int _))⟩
end
end DL

set_option Elab.async false
set_option linter.all false
set_option maxRecDepth 100000
set_option maxHeartbeats 4000000
namespace DL
open PySem PySem.Spec L2 PyProof.Rows

/-! ### tuple * 1 -/
theorem tuple_mul1W (l : Addr) (items : Array Value) (n : Nat) (dd : Option Addr) (sl : Array (Option Value)) (u : Tok) :
    Meets (Builtin.«tuple.__mul__» ⟨[.ref l, .int 1 u], []⟩) (fun _ R s => s.heap.get? l = some { cls := .type "tuple", dict := dd, data := .seq items n, slots := sl } ∧
      R (.ok (.ret (Value.ref l))) s) :=
  .of_wp fun prog w A R s h => by
    obtain ⟨hp, g, d, tk, os⟩ := s
    obtain ⟨hl, h⟩ := h
    have f1 := AutoSeq1.idx_int
    have ht : Shared.TypeIs ⟨hp, g, d, tk, os⟩ (.ref l) "tuple" := ⟨_, hl, rfl⟩
    have c1 : (items.isEmpty || (1 : Int) == 1) = true := by rw [Bool.or_eq_true]; exact .inr rfl
    wp_walk using wpAny_loadPart' hl
    repeat (first
      | (refine wpAny_ite_true (decide_eq_true (by rw [c1])) ?_; wp_walk using wpAny_loadPart' hl)
      | (refine wpAny_ite_false (decide_eq_false (by decide)) ?_; wp_walk using wpAny_loadPart' hl))
    exact ⟨_, rfl, h⟩
section
variable {X : Cx}
def rMul1 : RD2 := fun x y M Q => y = .d (.int 1) ∧ (∃ xs, tupOf x = some xs) ∧ Q x M
theorem opd_mul1 : OpR X (binaryOp .Mult) (upR2 (kw X) rMul1) := by
  intro pins s σ H x y v u Q I rx ry ⟨B, M, d, e, Q0, rel, r1, r2, ⟨e1, ⟨xs, e2⟩, q⟩, k⟩
  subst e1
  obtain rfl := rv_int r2
  obtain ⟨a, vs, rfl, s1, w1⟩ := rv_tup rel r1 e2
  obtain rfl : v = Value.ref a := rx
  obtain ⟨t, rfl⟩ := ry
  obtain ⟨its, r, ⟨⟨cls, dd, data, sl⟩, ho, hc, n, hd⟩, hs⟩ := I.tuple s1
  simp only at hc hd
  subst hc hd
  refine wpAny_binaryOp_repeat_ref (T := "tuple") (U := "int") (by decide) ⟨_, ho, rfl⟩ (fun s' => typeIs_int s' 1 t) noFill_tuple_mul F.fills_int_mul F.slot_int_rmul repeat_tuple F.slot_int_index.lookup
    (call_meets F.slot_int_rmul (typeIs_int s 1 t) F.entry_int_rmul (F.args_int_rmul_2 _ _) (int_rmul_tuple 1 t a its.toArray n dd sl)
      ⟨ho, rfl, ⟨_, ho, rfl⟩, call_meets F.slot_tuple_mul ⟨_, ho, rfl⟩ F.entry_tuple_mul (F.args_tuple_mul_2 _ _) (tuple_mul1W a its.toArray n dd sl t) ⟨ho, ?_⟩⟩)
  exact ⟨.ref a, H, I, rfl, k _ _ _ _ _ q (.refl rel) r1⟩
/-- x * k -/
def rMulE : RD2 := fun x y M Q => rMulD x y M Q ∨ rMul1 x y M Q
theorem opd_mulE : OpR X (binaryOp .Mult) (upR2 (kw X) rMulE) := opd_or opd_mul opd_mul1

/-! ### calls of the builtins, by name -/
variable {p pos apos cpos : Pos} {o e : Expr} {es : List Expr} {to : TDE} {t : TDA}
theorem de_c_len (hg : Gl X "len") (hm : X.mg "len" = none) (ha : DA X (e :: es) t) (st1 : starEach (e :: es) X.env = (false, eval e X.env) :: starEach es X.env := by rfl) (st2 : (backTo pos (starEach es X.env)).any (·.1) = false := by rfl) :
    DE X (.Call (.Name "len" p) (e :: es) [] pos) (dCB rLen t) := de_callB cd_len hg hm boot_len ha (by decide) (by decide) st1 st2
def rLenE : RDL := fun ds M Q => rLen ds M Q ∨ rLenN ds M Q
theorem de_c_lenE (hg : Gl X "len") (hm : X.mg "len" = none) (ha : DA X (e :: es) t) (st1 : starEach (e :: es) X.env = (false, eval e X.env) :: starEach es X.env := by rfl) (st2 : (backTo pos (starEach es X.env)).any (·.1) = false := by rfl) :
    DE X (.Call (.Name "len" p) (e :: es) [] pos) (dCB rLenE t) := de_callB (cd_or cd_len cd_lenN) hg hm boot_len ha (by decide) (by decide) st1 st2
theorem de_c_abs (hg : Gl X "abs") (hm : X.mg "abs" = none) (ha : DA X (e :: es) t) (st1 : starEach (e :: es) X.env = (false, eval e X.env) :: starEach es X.env := by rfl) (st2 : (backTo pos (starEach es X.env)).any (·.1) = false := by rfl) :
    DE X (.Call (.Name "abs" p) (e :: es) [] pos) (dCB rAbs t) := de_callB cd_abs hg hm boot_abs ha (by decide) (by decide) st1 st2
theorem de_c_int (hg : Gl X "int") (hm : X.mg "int" = none) (ha : DA X (e :: es) t) (st1 : starEach (e :: es) X.env = (false, eval e X.env) :: starEach es X.env := by rfl) (st2 : (backTo pos (starEach es X.env)).any (·.1) = false := by rfl) :
    DE X (.Call (.Name "int" p) (e :: es) [] pos) (dCB rInt1 t) := de_callTy cd_int hg hm PyProof.Rows.boot_int ha (by decide) (by decide) st1 st2
theorem de_c_list (hg : Gl X "list") (hm : X.mg "list" = none) (ha : DA X (e :: es) t) (st1 : starEach (e :: es) X.env = (false, eval e X.env) :: starEach es X.env := by rfl) (st2 : (backTo pos (starEach es X.env)).any (·.1) = false := by rfl) :
    DE X (.Call (.Name "list" p) (e :: es) [] pos) (dCB rList1 t) := de_callTy cd_list hg hm PyProof.Rows.boot_list ha (by decide) (by decide) st1 st2
theorem de_c_listF (hg : Gl X "list") (hm : X.mg "list" = none) (ha : DA X (e :: es) t) (st1 : starEach (e :: es) X.env = (false, eval e X.env) :: starEach es X.env := by rfl) (st2 : (backTo pos (starEach es X.env)).any (·.1) = false := by rfl) :
    DE X (.Call (.Name "list" p) (e :: es) [] pos) (dCB rList1F t) := de_callTy cd_listF hg hm PyProof.Rows.boot_list ha (by decide) (by decide) st1 st2
theorem de_c_tuple (hg : Gl X "tuple") (hm : X.mg "tuple" = none) (ha : DA X (e :: es) t) (st1 : starEach (e :: es) X.env = (false, eval e X.env) :: starEach es X.env := by rfl) (st2 : (backTo pos (starEach es X.env)).any (·.1) = false := by rfl) :
    DE X (.Call (.Name "tuple" p) (e :: es) [] pos) (dCB rTuple1 t) := de_callTy cd_tuple hg hm PyProof.Rows.boot_tuple ha (by decide) (by decide) st1 st2
theorem de_c_sum (hc : X.calm = true) (hg : Gl X "sum") (hm : X.mg "sum" = none) (ha : DA X (e :: es) t) (st1 : starEach (e :: es) X.env = (false, eval e X.env) :: starEach es X.env := by rfl) (st2 : (backTo pos (starEach es X.env)).any (·.1) = false := by rfl) :
    DE X (.Call (.Name "sum" p) (e :: es) [] pos) (dCB rSumD t) := de_callB (cd_sum hc) hg hm boot_sum ha (by decide) (by decide) st1 st2
theorem de_c_all (hc : X.calm = true) (hg : Gl X "all") (hm : X.mg "all" = none) (ha : DA X (e :: es) t) (st1 : starEach (e :: es) X.env = (false, eval e X.env) :: starEach es X.env := by rfl) (st2 : (backTo pos (starEach es X.env)).any (·.1) = false := by rfl) :
    DE X (.Call (.Name "all" p) (e :: es) [] pos) (dCB (rAllD fun bs => bs.all id) t) := de_callB (cd_all hc) hg hm boot_all ha (by decide) (by decide) st1 st2
theorem de_c_any (hc : X.calm = true) (hg : Gl X "any") (hm : X.mg "any" = none) (ha : DA X (e :: es) t) (st1 : starEach (e :: es) X.env = (false, eval e X.env) :: starEach es X.env := by rfl) (st2 : (backTo pos (starEach es X.env)).any (·.1) = false := by rfl) :
    DE X (.Call (.Name "any" p) (e :: es) [] pos) (dCB (rAllD fun bs => bs.any id) t) := de_callB (cd_any hc) hg hm boot_any ha (by decide) (by decide) st1 st2
theorem de_c_max1 (hc : X.calm = true) (hg : Gl X "max") (hm : X.mg "max" = none) (ha : DA X (e :: es) t) (st1 : starEach (e :: es) X.env = (false, eval e X.env) :: starEach es X.env := by rfl) (st2 : (backTo pos (starEach es X.env)).any (·.1) = false := by rfl) :
    DE X (.Call (.Name "max" p) (e :: es) [] pos) (dCB (rMostD fun y m => y ≤ m) t) := de_callB (cd_max hc) hg hm boot_max ha (by decide) (by decide) st1 st2
theorem de_c_min1 (hc : X.calm = true) (hg : Gl X "min") (hm : X.mg "min" = none) (ha : DA X (e :: es) t) (st1 : starEach (e :: es) X.env = (false, eval e X.env) :: starEach es X.env := by rfl) (st2 : (backTo pos (starEach es X.env)).any (·.1) = false := by rfl) :
    DE X (.Call (.Name "min" p) (e :: es) [] pos) (dCB (rMostD fun y m => m ≤ y) t) := de_callB (cd_min hc) hg hm boot_min ha (by decide) (by decide) st1 st2
theorem de_c_max2 (hc : X.calm = true) (hg : Gl X "max") (hm : X.mg "max" = none) (ha : DA X (e :: es) t) (st1 : starEach (e :: es) X.env = (false, eval e X.env) :: starEach es X.env := by rfl) (st2 : (backTo pos (starEach es X.env)).any (·.1) = false := by rfl) :
    DE X (.Call (.Name "max" p) (e :: es) [] pos) (dCB (rInt2 fun i j => if j > i then j else i) t) := de_callB (cd_max2 hc) hg hm boot_max ha (by decide) (by decide) st1 st2
theorem de_c_min2 (hc : X.calm = true) (hg : Gl X "min") (hm : X.mg "min" = none) (ha : DA X (e :: es) t) (st1 : starEach (e :: es) X.env = (false, eval e X.env) :: starEach es X.env := by rfl) (st2 : (backTo pos (starEach es X.env)).any (·.1) = false := by rfl) :
    DE X (.Call (.Name "min" p) (e :: es) [] pos) (dCB (rInt2 fun i j => if j < i then j else i) t) := de_callB (cd_min2 hc) hg hm boot_min ha (by decide) (by decide) st1 st2
theorem de_c_repr (gd : X.A.guards = some []) (hu6 : X.A.units + 66 < cLine) (hg : Gl X "repr") (hm : X.mg "repr" = none) (ha : DA X (e :: es) t) (st1 : starEach (e :: es) X.env = (false, eval e X.env) :: starEach es X.env := by rfl) (st2 : (backTo pos (starEach es X.env)).any (·.1) = false := by rfl) :
    DE X (.Call (.Name "repr" p) (e :: es) [] pos) (dCB rReprD t) := de_callB (cd_repr gd hu6) hg hm boot_repr ha (by decide) (by decide) st1 st2
theorem de_c_dictN (hu1 : X.A.units + 64 < cLine) (hg : Gl X "dict") (hm : X.mg "dict" = none) (ha : DA X (e :: es) t) (st1 : starEach (e :: es) X.env = (false, eval e X.env) :: starEach es X.env := by rfl) (st2 : (backTo pos (starEach es X.env)).any (·.1) = false := by rfl) :
    DE X (.Call (.Name "dict" p) (e :: es) [] pos) (dCB (rDictN X.w) t) := de_callTy (cd_dictN hu1) hg hm PyProof.Rows.boot_dict ha (by decide) (by decide) st1 st2
theorem de_lappend (ho : DE X o to) (ha : DA X (e :: es) t)
    (hbase : attributeBase o "append" X.env (eval o X.env) = eval o X.env := by rfl)
    (few : ((backTo cpos (starEach (e :: es) X.env)).all (fun x => !x.1) && (backToKw cpos (keywordEach [] X.env)).all (fun x => x.1.isSome) && decide ((e :: es).length + ([] : List Keyword).length + (if ([] : List Keyword).isEmpty then 0 else 1) < 30)) = true := by rfl)
    (line : (apos.endLine == cpos.line) = true := by rfl) (st1 : starEach (e :: es) X.env = (false, eval e X.env) :: starEach es X.env := by rfl) (st2 : (backTo cpos (starEach es X.env)).any (·.1) = false := by rfl) :
    DE X (.Call (.Attribute o "append" apos) (e :: es) [] cpos) (dBM isLst rAppendD to t) := de_bm isLst.ty F.plainAttrs_list F.slot_list_append F.type_list_append mtd_append ho ha hbase few line st1 st2
theorem de_lextend (ho : DE X o to) (ha : DA X (e :: es) t)
    (hbase : attributeBase o "extend" X.env (eval o X.env) = eval o X.env := by rfl)
    (few : ((backTo cpos (starEach (e :: es) X.env)).all (fun x => !x.1) && (backToKw cpos (keywordEach [] X.env)).all (fun x => x.1.isSome) && decide ((e :: es).length + ([] : List Keyword).length + (if ([] : List Keyword).isEmpty then 0 else 1) < 30)) = true := by rfl)
    (line : (apos.endLine == cpos.line) = true := by rfl) (st1 : starEach (e :: es) X.env = (false, eval e X.env) :: starEach es X.env := by rfl) (st2 : (backTo cpos (starEach es X.env)).any (·.1) = false := by rfl) :
    DE X (.Call (.Attribute o "extend" apos) (e :: es) [] cpos) (dBM isLst rExtendD to t) := de_bm isLst.ty F.plainAttrs_list F.slot_list_extend F.type_list_extend mtd_extend ho ha hbase few line st1 st2
theorem de_lpop (ho : DE X o to) (ha : DA X (e :: es) t)
    (hbase : attributeBase o "pop" X.env (eval o X.env) = eval o X.env := by rfl)
    (few : ((backTo cpos (starEach (e :: es) X.env)).all (fun x => !x.1) && (backToKw cpos (keywordEach [] X.env)).all (fun x => x.1.isSome) && decide ((e :: es).length + ([] : List Keyword).length + (if ([] : List Keyword).isEmpty then 0 else 1) < 30)) = true := by rfl)
    (line : (apos.endLine == cpos.line) = true := by rfl) (st1 : starEach (e :: es) X.env = (false, eval e X.env) :: starEach es X.env := by rfl) (st2 : (backTo cpos (starEach es X.env)).any (·.1) = false := by rfl) :
    DE X (.Call (.Attribute o "pop" apos) (e :: es) [] cpos) (dBM isLst rPopAtD to t) := de_bm isLst.ty F.plainAttrs_list F.slot_list_pop F.type_list_pop mtd_popAt ho ha hbase few line st1 st2
theorem de_lcount (hu5 : X.A.units + 65 < cLine) (ho : DE X o to) (ha : DA X (e :: es) t)
    (hbase : attributeBase o "count" X.env (eval o X.env) = eval o X.env := by rfl)
    (few : ((backTo cpos (starEach (e :: es) X.env)).all (fun x => !x.1) && (backToKw cpos (keywordEach [] X.env)).all (fun x => x.1.isSome) && decide ((e :: es).length + ([] : List Keyword).length + (if ([] : List Keyword).isEmpty then 0 else 1) < 30)) = true := by rfl)
    (line : (apos.endLine == cpos.line) = true := by rfl) (st1 : starEach (e :: es) X.env = (false, eval e X.env) :: starEach es X.env := by rfl) (st2 : (backTo cpos (starEach es X.env)).any (·.1) = false := by rfl) :
    DE X (.Call (.Attribute o "count" apos) (e :: es) [] cpos) (dBM isLst rCountD to t) := de_bm isLst.ty F.plainAttrs_list F.slot_list_count F.type_list_count (mtd_count hu5) ho ha hbase few line st1 st2
theorem de_lindex (hu5 : X.A.units + 65 < cLine) (ho : DE X o to) (ha : DA X (e :: es) t)
    (hbase : attributeBase o "index" X.env (eval o X.env) = eval o X.env := by rfl)
    (few : ((backTo cpos (starEach (e :: es) X.env)).all (fun x => !x.1) && (backToKw cpos (keywordEach [] X.env)).all (fun x => x.1.isSome) && decide ((e :: es).length + ([] : List Keyword).length + (if ([] : List Keyword).isEmpty then 0 else 1) < 30)) = true := by rfl)
    (line : (apos.endLine == cpos.line) = true := by rfl) (st1 : starEach (e :: es) X.env = (false, eval e X.env) :: starEach es X.env := by rfl) (st2 : (backTo cpos (starEach es X.env)).any (·.1) = false := by rfl) :
    DE X (.Call (.Attribute o "index" apos) (e :: es) [] cpos) (dBM isLst rIndexDD to t) := de_bm isLst.ty F.plainAttrs_list F.slot_list_index F.type_list_index (mtd_index hu5) ho ha hbase few line st1 st2
theorem de_dupdate (hu1 : X.A.units + 64 < cLine) (ho : DE X o to) (ha : DA X (e :: es) t)
    (hbase : attributeBase o "update" X.env (eval o X.env) = eval o X.env := by rfl)
    (few : ((backTo cpos (starEach (e :: es) X.env)).all (fun x => !x.1) && (backToKw cpos (keywordEach [] X.env)).all (fun x => x.1.isSome) && decide ((e :: es).length + ([] : List Keyword).length + (if ([] : List Keyword).isEmpty then 0 else 1) < 30)) = true := by rfl)
    (line : (apos.endLine == cpos.line) = true := by rfl) (st1 : starEach (e :: es) X.env = (false, eval e X.env) :: starEach es X.env := by rfl) (st2 : (backTo cpos (starEach es X.env)).any (·.1) = false := by rfl) :
    DE X (.Call (.Attribute o "update" apos) (e :: es) [] cpos) (dBM isDN (rUpdN X.w) to t) := de_bmN F.slot_dict_update F.type_dict_update (mtd_update hu1) ho ha hbase few line st1 st2
theorem de_dget (hu1 : X.A.units + 64 < cLine) (ho : DE X o to) (ha : DA X (e :: es) t)
    (hbase : attributeBase o "get" X.env (eval o X.env) = eval o X.env := by rfl)
    (few : ((backTo cpos (starEach (e :: es) X.env)).all (fun x => !x.1) && (backToKw cpos (keywordEach [] X.env)).all (fun x => x.1.isSome) && decide ((e :: es).length + ([] : List Keyword).length + (if ([] : List Keyword).isEmpty then 0 else 1) < 30)) = true := by rfl)
    (line : (apos.endLine == cpos.line) = true := by rfl) (st1 : starEach (e :: es) X.env = (false, eval e X.env) :: starEach es X.env := by rfl) (st2 : (backTo cpos (starEach es X.env)).any (·.1) = false := by rfl) :
    DE X (.Call (.Attribute o "get" apos) (e :: es) [] cpos) (dBM isDN rGet2N to t) := de_bmN F.slot_dict_get F.type_dict_get (mtd_get2 hu1) ho ha hbase few line st1 st2
theorem de_dsetdefault (hu1 : X.A.units + 64 < cLine) (ho : DE X o to) (ha : DA X (e :: es) t)
    (hbase : attributeBase o "setdefault" X.env (eval o X.env) = eval o X.env := by rfl)
    (few : ((backTo cpos (starEach (e :: es) X.env)).all (fun x => !x.1) && (backToKw cpos (keywordEach [] X.env)).all (fun x => x.1.isSome) && decide ((e :: es).length + ([] : List Keyword).length + (if ([] : List Keyword).isEmpty then 0 else 1) < 30)) = true := by rfl)
    (line : (apos.endLine == cpos.line) = true := by rfl) (st1 : starEach (e :: es) X.env = (false, eval e X.env) :: starEach es X.env := by rfl) (st2 : (backTo cpos (starEach es X.env)).any (·.1) = false := by rfl) :
    DE X (.Call (.Attribute o "setdefault" apos) (e :: es) [] cpos) (dBM isDN rSetDefN to t) := de_bmN F.slot_dict_setdefault F.type_dict_setdefault (mtd_setdefault hu1) ho ha hbase few line st1 st2
/-- the value of what may be a list or a dict, as a key asks -/
def rIxE : RD2 := fun x y M Q => rIxD x y M Q ∨ rDGetN x y M Q
theorem ixd_E (hu1 : X.A.units + 64 < cLine) : IxR X (upR2 (kw X) rIxE) := ixd_or ixd_seq (ixd_dN hu1)
def rSetE : RDSet := fun x y z M Q => rSetLD x y z M Q ∨ rSetN x y z M Q
theorem setd_E (hu1 : X.A.units + 64 < cLine) : PSet X (upSet (kw X) rSetE) := setd_or setd_list (setd_dN hu1)
/-! ### ==, != of texts too -/
def rEqS (neg : Bool) : RD2 := fun x y M Q => ∃ i j : Str, x = .d (.str i) ∧ y = .d (.str j) ∧ Q (.d (.bool (if neg = true then !decide (i = j) else decide (i = j)))) M
theorem opd_eqS : OpR X (compareOp .Eq) (upR2 (kw X) (rEqS false)) := by
  intro pins s σ H x y v u Q I rx ry ⟨B, M, d, e, Q0, rel, r1, r2, ⟨i, j, e1, e2, q⟩, k⟩
  subst e1 e2
  obtain rfl := rv_str r1
  obtain rfl := rv_str r2
  have z : decide (V.str i = V.str j) = decide (i = j) := by simp
  refine op_eq pins s σ H _ _ v u Q I rx ry ⟨rfl, ?_⟩
  rw [z]
  exact k _ M _ B H q (.refl rel) (.d (.bl _))
theorem opd_neS : OpR X (compareOp .NotEq) (upR2 (kw X) (rEqS true)) := by
  intro pins s σ H x y v u Q I rx ry ⟨B, M, d, e, Q0, rel, r1, r2, ⟨i, j, e1, e2, q⟩, k⟩
  subst e1 e2
  obtain rfl := rv_str r1
  obtain rfl := rv_str r2
  have z : decide (V.str i = V.str j) = decide (i = j) := by simp
  refine op_ne pins s σ H _ _ v u Q I rx ry ⟨rfl, ?_⟩
  rw [z]
  exact k _ M _ B H q (.refl rel) (.d (.bl _))
def rEqE (neg : Bool) : RD2 := fun x y M Q => rEqDD neg x y M Q ∨ rEqS neg x y M Q
theorem opd_eqE (hu1 : X.A.units + 64 < cLine) : OpR X (compareOp .Eq) (upR2 (kw X) (rEqE false)) := opd_or (opd_eq hu1) opd_eqS
theorem opd_neE (hu1 : X.A.units + 64 < cLine) : OpR X (compareOp .NotEq) (upR2 (kw X) (rEqE true)) := opd_or (opd_ne hu1) opd_neS
/-! ### truth of a list or a tuple -/
def dTru (t : TDE) : TDT := fun ρ M Q => t ρ M fun x M1 => (∃ k, x = .d (.bool k) ∧ Q k M1) ∨ (∃ i, x = .d (.int i) ∧ Q (i != 0) M1) ∨ (x = .d .none ∧ Q false M1) ∨ (∃ xs, seqOf M1 x = some xs ∧ Q (!xs.isEmpty) M1)
theorem dt_truth {e : Expr} {te : TDE} (h : DE X e te) (he : ∀ whole, isTrue e X.env whole = (do let v ← whole; standAt e.pos; holding [v] (truthy v)) := by intro _; rfl) : DT X e (dTru te) :=
  pt_imp (pt_truth h he) fun σ H Q ⟨B, M, ρ, Q0, rel, re, h, k⟩ => by
    refine ⟨B, M, ρ, _, rel, re, h, fun d M1 v B1 H1 q st r => ?_⟩
    rcases q with ⟨c, e1, q⟩ | ⟨c, e1, q⟩ | ⟨e1, q⟩ | ⟨xs, e1, q⟩
    · subst e1; obtain rfl := rv_bool r
      exact ⟨c, rfl, k _ _ _ _ q st⟩
    · subst e1; obtain rfl := rv_int r
      exact ⟨_, rfl, k _ _ _ _ q st⟩
    · subst e1; obtain rfl := rv_none r
      exact ⟨_, rfl, k _ _ _ _ q st⟩
    · obtain ⟨a, vs, rfl, s1, w1⟩ := rv_seq st.to r e1
      have ee : vs.isEmpty = xs.isEmpty := by cases w1 <;> rfl
      rw [← ee] at q
      rcases s1 with s1 | s1
      · exact ⟨_, .inl ⟨vs, s1, rfl⟩, k _ _ _ _ q st⟩
      · exact ⟨_, .inr (.inl ⟨vs, s1, rfl⟩), k _ _ _ _ q st⟩
end
end DL

set_option Elab.async false
set_option linter.all false
set_option maxRecDepth 100000
set_option maxHeartbeats 4000000
namespace DL
open PySem PySem.Spec L2 PyProof.Rows

/-! ### the law's own call, with the guards of repr known -/
section
variable {P : Program} {w : World} {K : PySem.W.Frag} {mg mb : Str → Option Value} {k : Nat} {fl a : Addr} {fd : FuncData} {x : Str} {sp : Sp} {z : Shared} {vs : List Value} {ns : List Int}
def LawEnd (z : Shared) (r : Result) (t : Shared) : Prop := r = .ok (.ret (.bool true)) ∧ OldK z.heap t.heap ∧ t.os = z.os ∧ AllBare t.gens
def Script1 (H : Hp) (a : Addr) (vs : List Value) (ns : List Int) : Prop := (H = fun _ => none) ∨ H = fun b => if b = a then some (.frz { cls := .type "list", data := .seq vs.toArray } (.lst (ns.map V.int))) else none
theorem Script1.old {H : Hp} (h : Script1 H a vs ns) {b : Addr} {u : HO} (e : H b = some u) : b = a ∧ u = .frz { cls := .type "list", data := .seq vs.toArray } (.lst (ns.map V.int)) := by
  rcases h with rfl | rfl
  · simp at e
  · by_cases c : b = a
    · simp only [c, if_true] at e
      exact ⟨c, (Option.some.inj e).symm⟩
    · simp [c] at e
theorem call_core (F : ∀ base : Heap, K.In base → base.Ns mainGlobals mg → FnG P w K mg base CX0 k fl fd [x] sp) (bd : ∀ (s : Shared) (u : Value), BindsTo s fd ⟨[u], []⟩ [(x, u)]) (kin : K.In z.heap) (n1 : z.heap.Ns mainGlobals mg) (n2 : z.heap.Ns builtinsNs mb) (n3 : ∀ x : Str, x ≠ "__name__" → mb x = bootBuiltins x)
    (n4 : z.heap.NoLimit) (g0 : z.gens = #[]) (oa : z.heap.get? a = some { cls := .type "list", data := .seq vs.toArray }) (rm : Room k callerA) (H : Hp) (h1 : Script1 H a vs ns) (hk : HOk P w H z.heap) (ka : H a ≠ none → K.lookup a = none)
    (ok : sp [.ref a] H (fun v _ => v = .bl true) fun _ _ _ => False) : codeAny (model P w) callerA (.call (.ref fl) ⟨[.ref a], []⟩) (LawEnd z) z := by
  have vis : ∀ {b : Addr} {o : Obj}, z.heap.get? b = some o → H b = none → (hidT z.heap H).get? b = some o := fun p q => hidT_get p q
  have notDict : ∀ {b : Addr} {o : Obj} {es : Array DictEntry} {ep : Nat}, z.heap.get? b = some o → o.data = .dict es ep → H b = none := by
    intro b o es ep p q
    cases c : H b with
    | none => rfl
    | some u =>
      obtain ⟨rfl, _⟩ := h1.old c
      rw [oa] at p
      cases p
      have q' : Data.seq vs.toArray _ = Data.dict es ep := q
      cases q'
  have names : ∀ {b : Addr} {m : Str → Option Value}, z.heap.Ns b m → (hidT z.heap H).Ns b m := fun ⟨o, es, ep, p, q, r⟩ => ⟨o, es, ep, vis p (notDict p q), q, r⟩
  have kin' : K.In (hidT z.heap H) := by
    intro b o p
    refine vis (kin b o p) ?_
    cases c : H b with
    | none => rfl
    | some u =>
      obtain ⟨rfl, _⟩ := h1.old c
      rw [ka (by rw [c]; simp)] at p
      cases p
  have md : Mod K mg (hidT z.heap H) := by
    obtain ⟨mc, q1, q2⟩ := n4
    exact ⟨kin', names n1, ⟨mb, names n2, n3⟩, mc, names q1, q2⟩
  have st : Env0 P w K mg (hidT z.heap H) callerA [] z H := by
    refine ⟨rfl, md, fun b o p => of_hidT p, Nat.le_of_eq (hidT_size _ _), trivial, ?_, hk, .of_eq g0⟩
    intro b hb
    exact absurd (show b ∈ ([] : List Addr) from hb) (List.not_mem_nil)
  refine codeAny_mono ((F _ kin' (names n1)).go callerA [] z H ⟨[.ref a], []⟩ [.ref a] [.ref a] _ _ rm rfl st (bd z (.ref a)) (.cons rfl .nil) ok) ?_
  intro r t hr
  cases r with
  | error e => exact False.elim hr
  | ok f =>
    cases f with
    | next => exact hr.elim
    | brk => exact hr.elim
    | cont => exact hr.elim
    | ret u =>
      obtain ⟨v, H', q1, q2, q3, q4, q5, q6⟩ := hr
      have q7 : v = .bl true := q6
      subst q7
      obtain rfl : u = Value.bool true := q5
      refine ⟨rfl, OldK.of_keep ?_, q1, q2⟩
      intro b o p
      cases c : H b with
      | none => exact q3.keep b o p c (fun y => absurd (show b ∈ ([] : List Addr) from y) List.not_mem_nil) (by simp)
      | some u =>
        obtain ⟨rfl, rfl⟩ := h1.old c
        have c2 := q3.frzs _ _ _ c
        obtain ⟨c3, _⟩ := hk _ _ c
        obtain ⟨c4, _⟩ := q4 _ _ c2
        rw [p] at c3
        cases c3
        exact c4
/-- a list of ints that stands in the module's own part -/
def ListK (K : PySem.W.Frag) (a : Addr) (ns : List Int) : Prop := ∀ H : Hp, SqL K H a (ns.map V.int)
theorem law_go (F : ∀ base : Heap, K.In base → base.Ns mainGlobals mg → FnG P w K mg base CX0 k fl fd [x] sp) (bd : ∀ (s : Shared) (u : Value), BindsTo s fd ⟨[u], []⟩ [(x, u)]) (kin : K.In z.heap) (n1 : z.heap.Ns mainGlobals mg) (n2 : z.heap.Ns builtinsNs mb) (n3 : ∀ x : Str, x ≠ "__name__" → mb x = bootBuiltins x)
    (n4 : z.heap.NoLimit) (g0 : z.gens = #[]) (oa : z.heap.get? a = some { cls := .type "list", data := .seq vs.toArray }) (rm : Room k callerA) (ia : IntsAre vs ns) (la : ns.length ≤ sizeLine)
    (ok : ∀ H : Hp, ((H = fun _ => none) ∧ ListK K a ns) ∨ (∃ o, H = fun b => if b = a then some (.frz o (.lst (ns.map V.int))) else none) → sp [.ref a] H (fun v _ => v = .bl true) fun _ _ _ => False) :
    codeAny (model P w) callerA (.call (.ref fl) ⟨[.ref a], []⟩) (LawEnd z) z := by
  have rv := vals_ints ia
  have len := ia.length
  cases c : K.lookup a with
  | some o =>
    have e := kin a o c
    rw [oa] at e
    cases e
    have kl : ListK K a ns := fun H => .inr ⟨_, vs.toArray, _, c, rfl, rfl, rfl, by rw [List.size_toArray, len]; exact la, by simpa using rv⟩
    exact call_core (ns := ns) F bd kin n1 n2 n3 n4 g0 oa rm (fun _ => none) (Or.inl rfl) (fun b u y => by simp at y) (fun y => absurd rfl y) (ok _ (.inl ⟨rfl, kl⟩))
  | none =>
    refine call_core F bd kin n1 n2 n3 n4 g0 oa rm _ (.inr rfl) ?_ (fun _ => c) (ok _ (.inr ⟨_, rfl⟩))
    intro b u y
    obtain ⟨rfl, rfl⟩ := Script1.old (vs := vs) (ns := ns) (.inr rfl) y
    exact ⟨oa, by rw [List.length_map]; exact la, vs, _, rv, oa⟩
end
/-- what is handed to the law: a list of ints that is read alone -/
def ReadS (K : PySem.W.Frag) (M : DM) (x : DV) (ns : List Int) : Prop := ∃ a, x = .ref a ∧ (M a = some (.ro (ns.map fun i => DV.d (.int i))) ∨ ListK K a ns)
theorem rvs_ints {K : Kw} {B : Hp} : ∀ ns : List Int, RVs K B (ns.map V.int) (ns.map fun i => DV.d (.int i))
  | [] => .nil
  | n :: ns => .cons (.d (.int n)) (rvs_ints ns)
/-- the goal of the case hc, from the law's promise at the level of data -/
theorem walk_law {l : PySem.W.OpenLaw} {n k : Nat} {q : Program} {loose : List Str} {XP : (Str → Option Value) → Heap → Prop} {YP : World → Heap → Prop} {d : DefRec} {K : Params → PySem.W.Frag} {sp : PySem.W.Frag → DSp} {x : Str}
    (hn : l.most = some n) (hn2 : n ≤ sizeLine) (hdf : d.params.defaults = []) (hr : Room k callerA) (hY : ∀ (w : World) (h : Heap), YP w h → (K w.params).In h)
    (F : ∀ (w : World) (mg : Str → Option Value) (fa : Addr) (h : Heap), (K w.params).In h → h.Ns mainGlobals mg → mg d.name = some (.ref fa) →
      ∃ fd : FuncData, (∀ (s : Shared) (u : Value), BindsTo s fd ⟨[u], []⟩ [(x, u)]) ∧ ∀ base : Heap, (K w.params).In base → base.Ns mainGlobals mg → DFn l.prog w (K w.params) mg base k fa fd [x] (sp (K w.params)))
    (hsp : ∀ (K : PySem.W.Frag) (M : DM) (y : DV) (ns : List Int), ns.length ≤ n → ReadS K M y ns → sp K [y] M fun v _ => v = .d (.bool true)) :
    PySem.W.WalkO q loose XP YP l.row.toRowW d [] (fun f vs => PySem.call f vs) := by
  refine Att.attach_call hn hdf fun w s₀ z mg mb fa o pm cd doc a vs ns G Y ho hd hcd hmg hobj hints hlen hg => ?_
  obtain ⟨fd, hb, hF⟩ := F w mg fa _ (hY w _ Y) G.T.g hmg
  refine law_go hF hb (hY w _ Y) G.T.g G.T.b G.T.builtins G.T.nolimit hg hobj hr hints (Nat.le_trans hlen hn2) ?_
  intro H hH
  have fin : ∀ (B : Hp) (M : DM) (H : Hp), KV1 ⟨K w.params, l.prog, w⟩ B M H (fun v _ => v = .d (.bool true)) (fun v _ => v = .bl true) := by
    intro B M H d M' v B' H' e st r
    subst e
    exact rv_bool r
  rcases hH with ⟨rfl, kl⟩ | ⟨ob, rfl⟩
  · refine ⟨fun _ => none, fun _ => none, [.ref a], _, ?_, .cons (.ref a) .nil, hsp _ _ _ ns hlen ⟨a, rfl, .inr kl⟩, fin _ _ _⟩
    exact ⟨fun b u e => by simp at e, fun b u e => by simp at e⟩
  · refine ⟨fun _ => none, put (fun _ => none) a (.ro (ns.map fun i => DV.d (.int i))), [.ref a], _, ?_, .cons (.ref a) .nil, hsp _ _ _ ns hlen ⟨a, rfl, .inl put_same⟩, fin _ _ _⟩
    refine ⟨fun b u e => by simp at e, fun b u e => ?_⟩
    by_cases c : b = a
    · subst c
      rw [put_same] at e
      cases e
      refine ⟨rfl, _, if_pos rfl, .r (rvs_ints ns)⟩
    · rw [put_ne c] at e
      cases e
/-! ### reading the script -/
section
variable {X : Cx} {tg l e : Expr} {es : List Expr} {td : TDE} {t : TDA} {p pos : Pos}
theorem ReadS.sq {K : Kw} {B : Hp} {M : DM} {H : Hp} {x : DV} {v : V} {ns : List Int} (rel : Rel K B M H) (h : ReadS K.K M x ns) (r : RV K B v x) : ∃ a, x = .ref a ∧ v = .ref a ∧ SqL K.K H a (ns.map V.int) := by
  obtain ⟨a, rfl, h⟩ := h
  obtain rfl := rv_ref r
  refine ⟨a, rfl, rfl, ?_⟩
  rcases h with h | h
  · obtain ⟨h, hh, ro⟩ := rel.get h
    obtain ⟨o, vs, rfl, w⟩ := ro.ro
    rw [rv_intsOf w] at hh
    exact .inl (.inr ⟨_, hh⟩)
  · exact h H
/-- the items of the script -/
def dIterS (K : PySem.W.Frag) (td : TDE) : TDI := fun ρ M Q => td ρ M fun x M1 => ∃ ns, ReadS K M1 x ns ∧ Q (ns.map fun i => DV.d (.int i)) (fun M' => ReadS K M' x ns) M1
theorem it_script {K : Kw} {B H : Hp} {a : Addr} {ns : List Int} : ItOk K B H (ns.map fun i => DV.d (.int i)) (fun M' => ReadS K.K M' (.ref a) ns) (Itl K.K a) := by
  refine ⟨fun B' M' H' i s _ rel e hi => ?_, fun B' M' H' i s _ rel e hi => ?_⟩
  · obtain ⟨a', e0, e1, s1⟩ := e.sq rel (.ref a)
    cases e1
    have hi' : i < ns.length := by rw [List.length_map] at hi; exact hi
    refine ⟨⟨ns.map V.int, V.int ns[i], s1, by simp [hi']⟩, fun v H'' ⟨e2, y⟩ => ?_⟩
    subst e2
    have z := y _ s1
    rw [List.getElem?_map, List.getElem?_eq_getElem hi'] at z
    obtain rfl : V.int ns[i] = v := Option.some.inj z
    exact ⟨B', .d (.int ns[i]), by simp [hi'], .refl rel, .d (.int _)⟩
  · obtain ⟨a', e0, e1, s1⟩ := e.sq rel (.ref a)
    cases e1
    exact ⟨_, s1, by rw [List.length_map]; rw [List.length_map] at hi; exact hi⟩
theorem di_script (hl : DE X l td) : DI X tg l (dIterS X.K td) := pi_imp (pi_list hl) fun σ H R ⟨B, M, ρ, Q0, rel, re, h, k⟩ => by
  refine ⟨B, M, ρ, _, rel, re, h, fun x M1 v B1 H1 ⟨ns, rs, q⟩ st r => ?_⟩
  obtain ⟨a, rfl, rfl, s1⟩ := rs.sq st.to r
  exact ⟨a, rfl, ⟨_, s1⟩, k _ _ _ _ _ _ q st it_script⟩
/-- list(script), never to change -/
def rListS (K : PySem.W.Frag) : RDL := fun ds M Q => ∃ x ns, ds = [x] ∧ ReadS K M x ns ∧ Q (.d (.list (ns.map .int))) M
theorem cd_listS : CallR X (.type "list") (upRL (kw X) (rListS X.K)) := by
  intro pins s σ H xs us Q I r ⟨B, M, ds, Q0, rel, rv, ⟨x, ns, e1, rs, q⟩, k⟩
  subst e1
  obtain ⟨v, rfl, rv'⟩ := rv_one rv
  obtain ⟨a, rfl, rfl, s1⟩ := rs.sq rel rv'
  refine call_list_of pins s σ H _ us Q I r ⟨a, _, rfl, .inl s1, fun p hp => ?_⟩
  have st := Step.newB rel hp (.lst (ns.map V.int))
  refine k _ M _ _ _ q st (.d (.lst upd_same ?_))
  have e := rvs_ints (K := kw X) (B := upd B p (.lst (ns.map V.int))) ns
  have e2 : (ns.map fun i => DV.d (.int i)) = (ns.map PyData.int).map DV.d := by rw [List.map_map]; rfl
  rw [e2] at e
  exact e.toDp
theorem de_c_listS (hg : Gl X "list") (hm : X.mg "list" = none) (ha : DA X (e :: es) t) (st1 : starEach (e :: es) X.env = (false, eval e X.env) :: starEach es X.env := by rfl) (st2 : (backTo pos (starEach es X.env)).any (·.1) = false := by rfl) :
    DE X (.Call (.Name "list" p) (e :: es) [] pos) (dCB (rListS X.K) t) := de_callTy cd_listS hg hm PyProof.Rows.boot_list ha (by decide) (by decide) st1 st2
end
end DL

set_option Elab.async false
set_option linter.all false
set_option maxRecDepth 100000
set_option maxHeartbeats 4000000
namespace DL
open PySem L2 PyProof.Rows

/-! ### steps through a reading -/
section
variable {ρ : DSt} {M : DM} {E : DEnds} {Q : DK}
theorem wSeq {t u : TDS} (h : t { E with nx := u E } ρ M) : dSeq t u E ρ M := h
/-- what holds between two statements -/
theorem wMid {t u : TDS} (R : DSt → DM → Prop) (h : ∀ K : DSt → DM → Prop, (∀ ρ M, R ρ M → K ρ M) → t { E with nx := K } ρ M) (h2 : ∀ ρ M, R ρ M → u E ρ M) : dSeq t u E ρ M := h _ h2
theorem wNext (h : E.nx ρ M) : dNext E ρ M := h
theorem wRet {te : TDE} (h : te ρ M E.rt) : dRet te E ρ M := h
theorem wDrop {te : TDE} (h : te ρ M fun _ M1 => E.nx ρ M1) : dDrop te E ρ M := h
theorem wAsg {te : TDE} {g : TDG} (h : te ρ M fun x M1 => g x ρ M1 E.nx) : dAsg te g E ρ M := h
theorem wName {i : Nat} {d : DV} {Q : DSt → DM → Prop} (h : Q (ρ.set i (some d)) M) : dgName i d ρ M Q := h
theorem wVar {i : Nat} {d : DV} (h : ρ[i]? = some (some d)) (q : Q d M) : dVar i ρ M Q := ⟨d, h, q⟩
theorem wC {x : PyData} (q : Q (.d x) M) : dC x ρ M Q := q
theorem wOp {r : RD2} {ta tb : TDE} (h : ta ρ M fun x M1 => tb ρ M1 fun y M2 => r x y M2 Q) : dOp r ta tb ρ M Q := h
theorem wUn {r : RD1} {ta : TDE} (h : ta ρ M fun x M1 => r x M1 Q) : dUn r ta ρ M Q := h
theorem wNil {Q : List DV → DM → Prop} (q : Q [] M) : dNil ρ M Q := q
theorem wCons {ta : TDE} {tr : TDA} {Q : List DV → DM → Prop} (h : ta ρ M fun x M1 => tr ρ M1 fun xs M2 => Q (x :: xs) M2) : dCons ta tr ρ M Q := h
theorem wCB {r : RDL} {t : TDA} (h : t ρ M fun ds M1 => r ds M1 Q) : dCB r t ρ M Q := h
theorem wCall {sp : DSp} {dxs : List PyData} {t : TDA} (h : t ρ M fun ds M1 => sp (ds ++ dxs.map DV.d) M1 Q) : dCall sp dxs t ρ M Q := h
theorem wTest {t : TDE} {Q : Bool → DM → Prop} (h : t ρ M fun x M1 => ∃ k, x = .d (.bool k) ∧ Q k M1) : dTest t ρ M Q := h
theorem wBool {k : Bool} {P : Bool → Prop} (h : P k) : ∃ j, DV.d (.bool k) = .d (.bool j) ∧ P j := ⟨k, rfl, h⟩
theorem wAnd {t u : TDT} {Q : Bool → DM → Prop} (h : t ρ M fun c M1 => if c = true then u ρ M1 Q else Q false M1) : dAnd t u ρ M Q := h
theorem wOr {t u : TDT} {Q : Bool → DM → Prop} (h : t ρ M fun c M1 => if c = true then Q true M1 else u ρ M1 Q) : dOr t u ρ M Q := h
theorem wNot {t : TDT} {Q : Bool → DM → Prop} (h : t ρ M fun c M1 => Q (!c) M1) : dNot t ρ M Q := h
theorem wAndV {ta tb : TDE} (h : ta ρ M fun x M1 => ∃ c, x = .d (.bool c) ∧ if c = true then tb ρ M1 Q else Q (.d (.bool false)) M1) : dAndV ta tb ρ M Q := h
theorem wOrV {ta tb : TDE} (h : ta ρ M fun x M1 => ∃ c, x = .d (.bool c) ∧ if c = true then Q (.d (.bool true)) M1 else tb ρ M1 Q) : dOrV ta tb ρ M Q := h
theorem wNotV {ta : TDE} (h : ta ρ M fun x M1 => ∃ c, x = .d (.bool c) ∧ Q (.d (.bool !c)) M1) : dNotV ta ρ M Q := h
theorem wIf {t : TDT} {ta tb : TDE} (h : t ρ M fun c M1 => if c = true then ta ρ M1 Q else tb ρ M1 Q) : dIf t ta tb ρ M Q := h
theorem wIfS {c : TDT} {t u : TDS} (h : c ρ M fun b M1 => if b = true then t E ρ M1 else u E ρ M1) : dIfS c t u E ρ M := h
theorem wTup {t : TDA} (h : t ρ M fun xs M1 => xs.length ≤ sizeLine ∧ Q (mkTup xs) M1) : dTup t ρ M Q := h
theorem wLst {t : TDA} (h : t ρ M fun xs M1 => xs.length ≤ sizeLine ∧ ∀ p, M1 p = none → Q (.ref p) (put M1 p (.lst xs))) : dLst t ρ M Q := h
theorem wLstF {t : TDA} (h : t ρ M fun xs M1 => xs.length ≤ sizeLine ∧ ∃ ds, dataL xs = some ds ∧ Q (.d (.list ds)) M1) : dLstF t ρ M Q := h
theorem wSl {r : RDS} {te : TDE} {tl th : TDO} (h : te ρ M fun x M1 => tl ρ M1 fun l M2 => th ρ M2 fun u M3 => r x l u M3 Q) : dSl r te tl th ρ M Q := h
theorem wNoPart {Q : Option Int → DM → Prop} (h : Q none M) : dNoPart ρ M Q := h
theorem wPart {t : TDE} {Q : Option Int → DM → Prop} (h : t ρ M fun x M1 => ∃ i, x = .d (.int i) ∧ Q (some i) M1) : dPart t ρ M Q := h
theorem wInt {i : Int} {P : Int → Prop} (h : P i) : ∃ j, DV.d (.int i) = .d (.int j) ∧ P j := ⟨i, rfl, h⟩
theorem wBM {ty : DV → DM → Prop} {r : RDM} {to : TDE} {t : TDA} (h : to ρ M fun x M1 => ty x M1 ∧ t ρ M1 fun xs M2 => r x xs M2 Q) : dBM ty r to t ρ M Q := h
theorem wSub {to ti : TDE} {r : RDSet} {d : DV} {Q : DSt → DM → Prop} (h : to ρ M fun o M1 => ti ρ M1 fun i M2 => r o i d M2 fun M3 => Q ρ M3) : dgSub to ti r d ρ M Q := h
theorem wGhost {g : DSt → DM → (DSt → DM → Prop) → Prop} {t : TDS} (h : g ρ M fun ρ' M' => t E ρ' M') : dGhost g t E ρ M := h
theorem wFor {ti : TDI} {g : TDG} {tb : TDS} (h : ti ρ M fun xs S M1 => forW g tb S E xs ρ M1) : dFor ti g tb E ρ M := h
theorem wIterL {tl : TDE} {Q : List DV → (DM → Prop) → DM → Prop} (h : tl ρ M fun x M1 => ∃ xs, listOf M1 x = some xs ∧ Q xs (fun M' => listOf M' x = some xs) M1) : dIterL tl ρ M Q := h
theorem wRng1 {ta : TDA} {Q : List DV → (DM → Prop) → DM → Prop} (h : ta ρ M fun ds M1 => ∃ j : Int, ds = [.d (.int j)] ∧ -(2 ^ 62) ≤ j ∧ j < 2 ^ 62 ∧ Q (rng 0 j.toNat) (fun _ => True) M1) : dRng1 ta ρ M Q := h
theorem wZip {ta : TDA} {Q : List DV → (DM → Prop) → DM → Prop} (h : ta ρ M fun ds M1 => ∃ x y, ds = [x, y] ∧ ((∃ xs ys, tupOf x = some xs ∧ tupOf y = some ys ∧ Q (zipD xs ys) (fun _ => True) M1) ∨ ∃ xs ys, listOf M1 x = some xs ∧ listOf M1 y = some ys ∧ Q (zipD xs ys) (fun M' => listOf M' x = some xs ∧ listOf M' y = some ys) M1)) : dZip ta ρ M Q := h
theorem wLc {ti : TDI} {g : TDG} {tt : TDT} {te : TDE} {vs : List Nat} (h : ti ρ M fun xs S M1 => lcW g tt te (dwipe ρ vs) S (fun ds M' => ∀ p, M' p = none → Q (.ref p) (put M' p (.lst ds))) xs [] M1) : dLc ti g tt te vs ρ M Q := h
theorem wLcF {ti : TDI} {g : TDG} {tt : TDT} {te : TDE} {vs : List Nat} (h : ti ρ M fun xs S M1 => lcW g tt te (dwipe ρ vs) S (fun ds M' => ∃ xs, dataL ds = some xs ∧ Q (.d (.list xs)) M') xs [] M1) : dLcF ti g tt te vs ρ M Q := h
theorem wYes {Q : Bool → DM → Prop} (h : Q true M) : dYes ρ M Q := h
theorem wPair {i j : Nat} {d e : DV} {x : DV} {Q : DSt → DM → Prop} (ht : tupOf x = some [d, e]) (q : Q ((ρ.set i (some d)).set j (some e)) M) : dgTup 2 (dgCons (dgName i) (dgCons (dgName j) dgNil)) x ρ M Q := ⟨_, ht, rfl, _, _, rfl, _, _, rfl, rfl, q⟩
/-! ### values -/
theorem wAddI {i j : Int} (q : Q (.d (.int (i + j))) M) : rAddD (.d (.int i)) (.d (.int j)) M Q := q
theorem rAddD_of {x y : DV} (h : (∃ xs ys, tupOf x = some xs ∧ tupOf y = some ys ∧ xs.length + ys.length ≤ sizeLine ∧ Q (mkTup (xs ++ ys)) M) ∨
      ∃ xs ys, lstOf M x = some xs ∧ lstOf M y = some ys ∧ xs.length + ys.length ≤ sizeLine ∧ ∀ p, M p = none → Q (.ref p) (put M p (.lst (xs ++ ys)))) : rAddD x y M Q := by
  unfold rAddD
  split
  · rcases h with ⟨xs, ys, h, _⟩ | ⟨xs, ys, h, _⟩
    · simp [tupOf] at h
    · simp [lstOf] at h
  · rcases h with ⟨xs, ys, h, _⟩ | ⟨xs, ys, h, _⟩
    · simp [tupOf] at h
    · simp [lstOf] at h
  · exact h
theorem wAddT {x y : DV} {xs ys : List DV} (h1 : tupOf x = some xs) (h2 : tupOf y = some ys) (hz : xs.length + ys.length ≤ sizeLine) (q : Q (mkTup (xs ++ ys)) M) : rAddD x y M Q := rAddD_of (.inl ⟨xs, ys, h1, h2, hz, q⟩)
theorem wAddL {x y : DV} {xs ys : List DV} (h1 : lstOf M x = some xs) (h2 : lstOf M y = some ys) (hz : xs.length + ys.length ≤ sizeLine) (q : ∀ p, M p = none → Q (.ref p) (put M p (.lst (xs ++ ys)))) : rAddD x y M Q := rAddD_of (.inr ⟨xs, ys, h1, h2, hz, q⟩)
theorem wIntOp {C : Int → Int → Prop} {g : Int → Int → PyData} {i j : Int} (hc : C i j) (q : Q (.d (g i j)) M) : rIntD C g (.d (.int i)) (.d (.int j)) M Q := ⟨i, j, rfl, rfl, hc, q⟩
theorem wIntT {g : Int → Int → PyData} {i j : Int} (q : Q (.d (g i j)) M) : rIntD CT g (.d (.int i)) (.d (.int j)) M Q := ⟨i, j, rfl, rfl, trivial, q⟩
theorem wMulI {i j : Int} (hc : CMul i j) (q : Q (.d (.int (i * j))) M) : rMulE (.d (.int i)) (.d (.int j)) M Q := .inl ⟨hc, q⟩
theorem rMulD_of {x : DV} {j : Int} (h : (∃ xs, tupOf x = some xs ∧ xs ≠ [] ∧ 2 ≤ j ∧ j ≤ 1000 ∧ xs.length ≤ 1000 ∧ Q (mkTup (List.replicate j.toNat xs).flatten) M) ∨
      ∃ xs, lstOf M x = some xs ∧ -(2 ^ 63) ≤ j ∧ j < 2 ^ 63 ∧ xs.length * j.toNat ≤ sizeLine ∧ ∀ p, M p = none → Q (.ref p) (put M p (.lst (List.replicate j.toNat xs).flatten))) : rMulE x (.d (.int j)) M Q := by
  refine .inl ?_
  unfold rMulD
  split
  · rcases h with ⟨xs, h, _⟩ | ⟨xs, h, _⟩
    · simp [tupOf] at h
    · simp [lstOf] at h
  · rename_i j' e
    injection e with e
    injection e with e
    subst e
    exact h
  · rename_i h2 h3
    first | exact (h2 _ rfl).elim | exact (h3 _ rfl).elim | exact (h2 _ _ rfl).elim | exact (h3 _ _ rfl).elim
/-- (x,) * n, any n ≥ 1 -/
theorem wMulT {x : DV} {d : DV} {n : Nat} (h1 : tupOf x = some [d]) (hx : x = mkTup [d]) (h2 : 1 ≤ n) (h3 : n ≤ 1000) (q : Q (mkTup (List.replicate n d)) M) : rMulE x (.d (.int n)) M Q := by
  by_cases c : n = 1
  · subst c
    refine .inr ⟨rfl, ⟨_, h1⟩, ?_⟩
    rw [hx]
    exact q
  · refine rMulD_of (.inl ⟨_, h1, by simp, by omega, by omega, by simp, ?_⟩)
    rw [Int.toNat_natCast]
    have e : (List.replicate n [d]).flatten = List.replicate n d := by
      clear q h2 h3 c
      induction n with
      | zero => rfl
      | succ n ih => rw [List.replicate_succ, List.flatten_cons, ih]; rfl
    rw [e]
    exact q
theorem wMulL {x : DV} {d : DV} {n : Nat} (h1 : lstOf M x = some [d]) (h3 : n ≤ 1000) (q : ∀ p, M p = none → Q (.ref p) (put M p (.lst (List.replicate n d)))) : rMulE x (.d (.int n)) M Q := by
  refine rMulD_of (.inr ⟨_, h1, by omega, by omega, ?_, ?_⟩)
  · rw [Int.toNat_natCast]
    have : (1000 : Nat) ≤ sizeLine := by decide
    simp only [List.length_cons, List.length_nil]
    omega
  rw [Int.toNat_natCast]
  have e : (List.replicate n [d]).flatten = List.replicate n d := by
    clear q h3
    induction n with
    | zero => rfl
    | succ n ih => rw [List.replicate_succ, List.flatten_cons, ih]; rfl
  rw [e]
  exact q
theorem ixN_nat {n k : Nat} (h : k < n) : ixN n (k : Int) = some k := by
  unfold ixN
  rw [if_pos (by omega), if_pos (by omega), Int.toNat_natCast]
theorem atI_nat {α : Type} {xs : List α} {k : Nat} {d : α} (h : xs[k]? = some d) : atI xs (k : Int) = some d := by
  obtain ⟨h1, _⟩ := List.getElem?_eq_some_iff.mp h
  unfold atI
  rw [ixN_nat h1]
  exact h
theorem wIx {x : DV} {xs : List DV} {i : Int} {d : DV} (n : Nat) (h1 : seqOf M x = some xs) (h2 : xs[n]? = some d) (hi : i = (n : Int)) (q : Q d M) : rIxD x (.d (.int i)) M Q := ⟨xs, i, d, h1, rfl, by rw [hi]; exact atI_nat h2, q⟩
/-- the last one -/
theorem wIxLast {x : DV} {xs : List DV} {d : DV} (h1 : seqOf M x = some (xs ++ [d])) (q : Q d M) : rIxD x (.d (.int (-1))) M Q := by
  refine ⟨_, _, d, h1, rfl, ?_, q⟩
  unfold atI ixN
  have e : (xs ++ [d]).length = xs.length + 1 := by simp
  rw [if_neg (by omega), if_pos (by omega)]
  have e2 : ((-1 : Int) + ((xs ++ [d]).length : Nat)).toNat = xs.length := by omega
  show (some _ : Option Nat).bind _ = _
  rw [Option.bind_some, e2]
  simp
theorem wSetL {x : DV} {a : Addr} {xs : List DV} {i : Int} {z : DV} {Q : DM → Prop} (n : Nat) (e : x = .ref a) (h1 : M a = some (.lst xs)) (h2 : n < xs.length) (hi : i = (n : Int)) (q : Q (put M a (.lst (xs.set n z)))) : rSetLD x (.d (.int i)) z M Q := ⟨a, xs, i, n, e, rfl, h1, by rw [hi]; exact ixN_nat h2, q⟩
theorem listOf_ref {a : Addr} {xs : List DV} (h : M a = some (.lst xs)) : listOf M (.ref a) = some xs := by simp [listOf, h]
theorem lstOf_ref {a : Addr} {xs : List DV} (h : M a = some (.lst xs)) : lstOf M (.ref a) = some xs := by simp [lstOf, h]
theorem seqOf_ref {a : Addr} {xs : List DV} (h : M a = some (.lst xs)) : seqOf M (.ref a) = some xs := by simp [seqOf, listOf, h]
theorem seqOf_list {M : DM} {xs : List PyData} : seqOf M (.d (.list xs)) = some (xs.map DV.d) := rfl
theorem seqOf_tup {M : DM} {xs : List PyData} : seqOf M (.d (.tuple xs)) = some (xs.map DV.d) := rfl
theorem seqOf_listOf {x : DV} {xs : List DV} (h : listOf M x = some xs) : seqOf M x = some xs := by unfold seqOf; rw [h]
theorem isLst_ref {a : Addr} {xs : List DV} (h : M a = some (.lst xs)) : isLst (.ref a) M := .inl ⟨a, rfl, xs, h⟩
theorem isDN_ref {a : Addr} {kd : List (NestedKey × DV)} (h : M a = some (.dN kd)) : isDN (.ref a) M := ⟨a, rfl, kd, h⟩
theorem wTup1 {x : DV} {xs : List DV} (h : seqOf M x = some xs) (q : Q (mkTup xs) M) : rTuple1 [x] M Q := ⟨x, xs, rfl, h, q⟩
theorem wTupF {xs : List PyData} (q : Q (.d (.tuple xs)) M) : rTuple1 [.d (.list xs)] M Q := ⟨_, _, rfl, rfl, by rw [mkTup_map]; exact q⟩
theorem wList1 {x : DV} {xs : List DV} (h : seqOf M x = some xs) (q : ∀ p, M p = none → Q (.ref p) (put M p (.lst xs))) : rList1 [x] M Q := ⟨x, xs, rfl, h, q⟩
theorem wLenL {x : DV} {xs : List DV} (h : seqOf M x = some xs) (q : Q (.d (.int xs.length)) M) : rLen [x] M Q := ⟨x, rfl, .inl ⟨xs, h, q⟩⟩
theorem wInt1 {i : Int} (q : Q (.d (.int i)) M) : rInt1 [.d (.int i)] M Q := .inl ⟨i, rfl, q⟩
theorem wInt2 {g : Int → Int → Int} {i j : Int} (q : Q (.d (.int (g i j))) M) : rInt2 g [.d (.int i), .d (.int j)] M Q := ⟨i, j, rfl, q⟩
theorem wAppend {x y : DV} {a : Addr} {xs : List DV} (e : x = .ref a) (h : M a = some (.lst xs)) (hz : xs.length < sizeLine) (q : Q (.d .none) (put M a (.lst (xs ++ [y])))) : rAppendD x [y] M Q := ⟨a, xs, y, e, rfl, h, hz, q⟩
/-! ### == of data -/
/-- data of at most n floors without bools and dicts -/
def okD : Nat → PyData → Prop
  | _, .none => True
  | _, .int _ => True
  | _, .str x => PyData.strOk x = true
  | n + 1, .list xs => ∀ x ∈ xs, okD n x
  | n + 1, .tuple xs => ∀ x ∈ xs, okD n x
  | _, _ => False
theorem canLay_okAll : ∀ {xs : List PyData}, (∀ x ∈ xs, x.canLay0 = true) → PyData.canLayAll0 xs = true
  | [], _ => by simp only [PyData.canLayAll0]
  | x :: xs, h => by
    simp only [PyData.canLayAll0, Bool.and_eq_true]
    exact ⟨h x (by simp), canLay_okAll fun y hy => h y (by simp [hy])⟩
theorem depth_okAll {n : Nat} : ∀ {xs : List PyData}, (∀ x ∈ xs, x.depth ≤ n) → PyData.depthAll xs ≤ n
  | [], _ => by simp only [PyData.depthAll]; exact Nat.zero_le _
  | x :: xs, h => by
    simp only [PyData.depthAll]
    exact Nat.max_le.mpr ⟨h x (by simp), depth_okAll fun y hy => h y (by simp [hy])⟩
theorem okD_lay : ∀ (n : Nat) (x : PyData), okD n x → x.canLay0 = true ∧ x.depth ≤ n
  | n, .none, _ => by cases n <;> simp [PyData.canLay0, PyData.depth]
  | n, .int _, _ => by cases n <;> simp [PyData.canLay0, PyData.depth]
  | n, .str _, h => by cases n <;> simp only [okD] at h <;> simp [PyData.canLay0, PyData.depth, h]
  | n + 1, .list xs, h => by
    simp only [okD] at h
    have := fun y hy => okD_lay n y (h y hy)
    simp only [PyData.canLay0, PyData.depth]
    exact ⟨canLay_okAll fun y hy => (this y hy).1, Nat.succ_le_succ (depth_okAll fun y hy => (this y hy).2)⟩
  | n + 1, .tuple xs, h => by
    simp only [okD] at h
    have := fun y hy => okD_lay n y (h y hy)
    simp only [PyData.canLay0, PyData.depth]
    exact ⟨canLay_okAll fun y hy => (this y hy).1, Nat.succ_le_succ (depth_okAll fun y hy => (this y hy).2)⟩
  | 0, .list xs, h => by simp [okD] at h
  | 0, .tuple xs, h => by simp [okD] at h
  | 0, .bool xs, h => by simp [okD] at h
  | 0, .dict xs, h => by simp [okD] at h
  | n + 1, .bool xs, h => by simp [okD] at h
  | n + 1, .dict xs, h => by simp [okD] at h
theorem okD_shaped {n : Nat} {x : PyData} (h : okD n x) (hn : n ≤ 64) : SeqAt.shaped x = true := by
  obtain ⟨h1, h2⟩ := okD_lay n x h
  unfold SeqAt.shaped
  rw [h1]
  simp
  omega
theorem eqvAll_of : ∀ {xs ys : List PyData}, (∀ x ∈ xs, ∀ y ∈ ys, (PyData.eqv x y = true ↔ x = y)) → (PyData.eqvAll xs ys = true ↔ xs = ys)
  | [], [], _ => by simp [PyData.eqvAll]
  | [], _ :: _, _ => by simp [PyData.eqvAll]
  | _ :: _, [], _ => by simp [PyData.eqvAll]
  | x :: xs, y :: ys, h => by
    simp only [PyData.eqvAll, Bool.and_eq_true, List.cons.injEq]
    rw [h x (by simp) y (by simp), eqvAll_of fun a ha b hb => h a (by simp [ha]) b (by simp [hb])]
theorem eqv_ok : ∀ (n m : Nat) (x y : PyData), okD n x → okD m y → (PyData.eqv x y = true ↔ x = y) := by
  intro n
  induction n with
  | zero =>
    intro m x y hx hy
    cases x <;> simp only [okD] at hx <;> (cases m <;> cases y <;> simp only [okD] at hy <;> simp [PyData.eqv])
  | succ n ih =>
    intro m x y hx hy
    cases x <;> simp only [okD] at hx <;> (cases m <;> cases y <;> simp only [okD] at hy <;> simp [PyData.eqv])
    all_goals exact eqvAll_of fun a ha b hb => ih _ a b (hx a ha) (hy b hb)
/-- ==, != of such data -/
theorem wEq {x y : DV} {a b : PyData} {n m : Nat} (h1 : rd 3 M x = some a) (h2 : rd 3 M y = some b) (o1 : okD n a) (o2 : okD m b) (hn : n ≤ 64) (hm : m ≤ 64) (q : ∀ k : Bool, (k = true ↔ a = b) → Q (.d (.bool k)) M) : rEqE false x y M Q :=
  .inl ⟨a, b, h1, h2, okD_shaped o1 hn, okD_shaped o2 hm, q _ (eqv_ok n m a b o1 o2)⟩
theorem wNe {x y : DV} {a b : PyData} {n m : Nat} (h1 : rd 3 M x = some a) (h2 : rd 3 M y = some b) (o1 : okD n a) (o2 : okD m b) (hn : n ≤ 64) (hm : m ≤ 64) (q : ∀ k : Bool, (k = true ↔ a ≠ b) → Q (.d (.bool k)) M) : rEqE true x y M Q :=
  .inl ⟨a, b, h1, h2, okD_shaped o1 hn, okD_shaped o2 hm, q _ (by
    have := eqv_ok n m a b o1 o2
    show (!PyData.eqv a b) = true ↔ a ≠ b
    rw [Bool.not_eq_true', ← Bool.not_eq_true]
    exact not_congr this)⟩
theorem wEqI {i j : Int} (q : Q (.d (.bool (decide (i = j)))) M) : rEqE false (.d (.int i)) (.d (.int j)) M Q :=
  wEq (n := 0) (m := 0) rfl rfl trivial trivial (by decide) (by decide) fun k h => by
    have : k = decide (i = j) := by
      by_cases c : i = j
      · rw [h.mpr (by rw [c])]; simp [c]
      · cases k
        · simp [c]
        · exact absurd (by injection h.mp rfl) c
    rw [this]; exact q
theorem wNeI {i j : Int} (q : Q (.d (.bool (!decide (i = j)))) M) : rEqE true (.d (.int i)) (.d (.int j)) M Q :=
  wNe (n := 0) (m := 0) rfl rfl trivial trivial (by decide) (by decide) fun k h => by
    have : k = !decide (i = j) := by
      by_cases c : i = j
      · cases k
        · simp [c]
        · exact absurd (by rw [c]) (h.mp rfl)
      · rw [h.mpr (fun z => c (by injection z))]; simp [c]
    rw [this]; exact q
theorem wEqS {i j : Str} (q : Q (.d (.bool (decide (i = j)))) M) : rEqE false (.d (.str i)) (.d (.str j)) M Q := .inr ⟨i, j, rfl, rfl, q⟩
theorem wNeS {i j : Str} (q : Q (.d (.bool (!decide (i = j)))) M) : rEqE true (.d (.str i)) (.d (.str j)) M Q := .inr ⟨i, j, rfl, rfl, q⟩
/-! ### loops -/
variable {g : TDG} {tb : TDS} {tt : TDT} {te : TDE} {S : DM → Prop}
theorem forW_go (Inv : Nat → DSt → DM → Prop) {xs0 : List DV} (step : ∀ i x ρ M, xs0[i]? = some x → Inv i ρ M → S M ∧ ∀ K : DSt → DM → Prop, (∀ ρ M, Inv (i + 1) ρ M → K ρ M) → g x ρ M fun ρ' M' => tb { E with nx := K, ct := K, bk := E.nx } ρ' M')
    (fin : ∀ ρ M, Inv xs0.length ρ M → S M ∧ E.nx ρ M) : ∀ (xs : List DV) (i : Nat), xs0.drop i = xs → i ≤ xs0.length → ∀ ρ M, Inv i ρ M → forW g tb S E xs ρ M
  | [], i, e, hi, ρ, M, h => by
    have : xs0.length ≤ i := List.drop_eq_nil_iff.mp e
    have e2 : i = xs0.length := by omega
    subst e2
    exact fin ρ M h
  | x :: r, i, e, hi, ρ, M, h => by
    have hx : xs0[i]? = some x := by
      have := congrArg (·[0]?) e
      simpa using this
    have hr : xs0.drop (i + 1) = r := by
      have := congrArg List.tail e
      simpa using this
    obtain ⟨hl, _⟩ := List.getElem?_eq_some_iff.mp hx
    obtain ⟨s1, s2⟩ := step i x ρ M hx h
    exact ⟨s1, s2 _ fun ρ' M' h' => forW_go Inv step fin r (i + 1) hr hl ρ' M' h'⟩
/-- a for loop by an invariant -/
theorem forW_inv (Inv : Nat → DSt → DM → Prop) {xs : List DV} (h0 : Inv 0 ρ M) (step : ∀ i x ρ M, xs[i]? = some x → Inv i ρ M → S M ∧ ∀ K : DSt → DM → Prop, (∀ ρ M, Inv (i + 1) ρ M → K ρ M) → g x ρ M fun ρ' M' => tb { E with nx := K, ct := K, bk := E.nx } ρ' M')
    (fin : ∀ ρ M, Inv xs.length ρ M → S M ∧ E.nx ρ M) : forW g tb S E xs ρ M := forW_go Inv step fin xs 0 rfl (Nat.zero_le _) ρ M h0
theorem lcW_go {Q : List DV → DM → Prop} (Inv : Nat → List DV → DM → Prop) {xs0 : List DV} (step : ∀ i x acc M, xs0[i]? = some x → Inv i acc M → S M ∧ ∀ K : List DV → DM → Prop, (∀ acc M, Inv (i + 1) acc M → K acc M) →
      g x ρ M fun ρ2 M2 => tt ρ2 M2 fun b M3 => if b = true then te ρ2 M3 fun y M4 => acc.length < sizeLine ∧ K (acc ++ [y]) M4 else K acc M3)
    (fin : ∀ acc M, Inv xs0.length acc M → S M ∧ Q acc M) : ∀ (xs : List DV) (i : Nat), xs0.drop i = xs → i ≤ xs0.length → ∀ acc M, Inv i acc M → lcW g tt te ρ S Q xs acc M
  | [], i, e, hi, acc, M, h => by
    have : xs0.length ≤ i := List.drop_eq_nil_iff.mp e
    have e2 : i = xs0.length := by omega
    subst e2
    exact fin acc M h
  | x :: r, i, e, hi, acc, M, h => by
    have hx : xs0[i]? = some x := by
      have := congrArg (·[0]?) e
      simpa using this
    have hr : xs0.drop (i + 1) = r := by
      have := congrArg List.tail e
      simpa using this
    obtain ⟨hl, _⟩ := List.getElem?_eq_some_iff.mp hx
    obtain ⟨s1, s2⟩ := step i x acc M hx h
    exact ⟨s1, s2 _ fun acc' M' h' => lcW_go Inv step fin r (i + 1) hr hl acc' M' h'⟩
theorem lcW_inv {Q : List DV → DM → Prop} (Inv : Nat → List DV → DM → Prop) {xs : List DV} (h0 : Inv 0 [] M) (step : ∀ i x acc M, xs[i]? = some x → Inv i acc M → S M ∧ ∀ K : List DV → DM → Prop, (∀ acc M, Inv (i + 1) acc M → K acc M) →
      g x ρ M fun ρ2 M2 => tt ρ2 M2 fun b M3 => if b = true then te ρ2 M3 fun y M4 => acc.length < sizeLine ∧ K (acc ++ [y]) M4 else K acc M3)
    (fin : ∀ acc M, Inv xs.length acc M → S M ∧ Q acc M) : lcW g tt te ρ S Q xs [] M := lcW_go Inv step fin xs 0 rfl (Nat.zero_le _) [] M h0
/-- a comprehension that changes nothing: the i-th item made is ys[i] -/
theorem lcW_map {Q : List DV → DM → Prop} {xs : List DV} (ys : List DV) (hl : ys.length = xs.length) (hz : xs.length ≤ sizeLine) (hS : S M)
    (step : ∀ (i : Nat) (x y : DV), xs[i]? = some x → ys[i]? = some y → ∀ K : DK, K y M → g x ρ M fun ρ2 M2 => te ρ2 M2 K) (q : Q ys M) : lcW g dYes te ρ S Q xs [] M := by
  refine lcW_inv (fun i acc M' => acc = ys.take i ∧ M' = M) ⟨by simp, rfl⟩ ?_ ?_
  · rintro i x acc M' hx ⟨rfl, rfl⟩
    refine ⟨hS, fun K hK => ?_⟩
    obtain ⟨hi, _⟩ := List.getElem?_eq_some_iff.mp hx
    have hy : ys[i]? = some (ys[i]'(by omega)) := List.getElem?_eq_getElem _
    refine step i x _ hx hy (fun y M4 => (ys.take i).length < sizeLine ∧ K (ys.take i ++ [y]) M4) ⟨by simp; omega, hK _ _ ⟨?_, rfl⟩⟩
    rw [List.take_add_one, hy]
    rfl
  · rintro acc M' ⟨rfl, rfl⟩
    refine ⟨hS, ?_⟩
    rw [← hl, List.take_length]
    exact q
/-- those that pass a test -/
theorem lcW_filter {Q : List DV → DM → Prop} {xs : List DV} (p : DV → Bool) (hz : xs.length ≤ sizeLine) (hS : S M)
    (step : ∀ x, x ∈ xs → ∀ (K1 : DK) (K2 : DM → Prop), (p x = true → K1 x M) → (p x = false → K2 M) → g x ρ M fun ρ2 M2 => tt ρ2 M2 fun b M3 => if b = true then te ρ2 M3 K1 else K2 M3) (q : Q (xs.filter p) M) : lcW g tt te ρ S Q xs [] M := by
  refine lcW_inv (fun i acc M' => acc = (xs.take i).filter p ∧ M' = M) ⟨by simp, rfl⟩ ?_ ?_
  · rintro i x acc M' hx ⟨rfl, rfl⟩
    refine ⟨hS, fun K hK => ?_⟩
    obtain ⟨hi, _⟩ := List.getElem?_eq_some_iff.mp hx
    have ht : xs.take (i + 1) = xs.take i ++ [x] := by rw [List.take_add_one, hx]; rfl
    refine step x (List.mem_of_getElem? hx) (fun y M4 => ((xs.take i).filter p).length < sizeLine ∧ K ((xs.take i).filter p ++ [y]) M4) (fun M3 => K ((xs.take i).filter p) M3) (fun hp => ⟨?_, hK _ _ ⟨?_, rfl⟩⟩) (fun hp => hK _ _ ⟨?_, rfl⟩)
    · have := List.length_filter_le p (xs.take i)
      have h2 : (xs.take i).length ≤ i := by simp; omega
      omega
    · rw [ht, List.filter_append]; simp [hp]
    · rw [ht, List.filter_append]; simp [hp]
  · rintro acc M' ⟨rfl, rfl⟩
    refine ⟨hS, ?_⟩
    rw [List.take_length]
    exact q
end
end DL

set_option Elab.async false
set_option linter.all false
set_option maxRecDepth 100000
set_option maxHeartbeats 4000000
namespace DL
open PySem L2 PyProof.Rows
/-! ### keys (c, k): their hashes -/
def keyN (c k : Nat) : NestedKey := .tup [.num (c : Nat), .num (k : Nat)]
def hashN (c k : Nat) : Int := reduceHash (Builtin.Tuple.tupleHashOf [hashInt (c : Nat), hashInt (k : Nat)])
theorem hash_keyN (w : World) (c k : Nat) : (keyN c k).hash w = hashN c k := rfl
theorem keyN_inj {c k c' k' : Nat} (h : keyN c k = keyN c' k') : c = c' ∧ k = k' := by
  simp only [keyN, NestedKey.tup.injEq, List.cons.injEq, NestedKey.num.injEq, and_true] at h
  omega
/-- two sorted lists as one -/
def mergeN : Nat → List (Int × Nat) → List (Int × Nat) → List (Int × Nat)
  | 0, _, _ => []
  | _ + 1, [], b => b
  | _ + 1, a :: as, [] => a :: as
  | n + 1, a :: as, b :: bs => if a.1 ≤ b.1 then a :: mergeN n as (b :: bs) else b :: mergeN n (a :: as) bs
def pairsN (f : Nat) : List (List (Int × Nat)) → List (List (Int × Nat))
  | a :: b :: r => mergeN f a b :: pairsN f r
  | r => r
def sortN (f : Nat) : Nat → List (List (Int × Nat)) → List (List (Int × Nat))
  | 0, xs => xs
  | n + 1, xs => sortN f n (pairsN f xs)
def upB : List (Int × Nat) → Bool
  | a :: b :: r => decide (a.1 < b.1) && upB (b :: r)
  | _ => true
theorem mergeN_mem (x : Int × Nat) : ∀ (f : Nat) (a b : List (Int × Nat)), a.length + b.length < f → (x ∈ a ∨ x ∈ b → x ∈ mergeN f a b) ∧ (mergeN f a b).length = a.length + b.length
  | 0, _, _, h => by omega
  | f + 1, [], b, h => by simp [mergeN]
  | f + 1, a :: as, [], h => by simp [mergeN]
  | f + 1, a :: as, b :: bs, h => by
    simp only [List.length_cons] at h
    unfold mergeN
    split
    · obtain ⟨h1, h2⟩ := mergeN_mem x f as (b :: bs) (by simp only [List.length_cons]; omega)
      refine ⟨fun q => ?_, by simp only [List.length_cons] at h2 ⊢; omega⟩
      rcases q with q | q
      · rcases List.mem_cons.mp q with q | q
        · exact List.mem_cons.mpr (.inl q)
        · exact List.mem_cons.mpr (.inr (h1 (.inl q)))
      · exact List.mem_cons.mpr (.inr (h1 (.inr q)))
    · obtain ⟨h1, h2⟩ := mergeN_mem x f (a :: as) bs (by simp only [List.length_cons]; omega)
      refine ⟨fun q => ?_, by simp only [List.length_cons] at h2 ⊢; omega⟩
      rcases q with q | q
      · exact List.mem_cons.mpr (.inr (h1 (.inl q)))
      · rcases List.mem_cons.mp q with q | q
        · exact List.mem_cons.mpr (.inl q)
        · exact List.mem_cons.mpr (.inr (h1 (.inr q)))
theorem pairsN_mem (x : Int × Nat) (f : Nat) : ∀ xs : List (List (Int × Nat)), xs.flatten.length < f → (x ∈ xs.flatten → x ∈ (pairsN f xs).flatten) ∧ (pairsN f xs).flatten.length = xs.flatten.length
  | [], h => by simp [pairsN]
  | [a], h => by simp [pairsN]
  | a :: b :: r, h => by
    simp only [List.flatten_cons, List.length_append] at h
    obtain ⟨h1, h2⟩ := mergeN_mem x f a b (by omega)
    obtain ⟨h3, h4⟩ := pairsN_mem x f r (by omega)
    refine ⟨fun q => ?_, ?_⟩
    · simp only [pairsN, List.flatten_cons, List.mem_append] at q ⊢
      rcases q with q | q | q
      · exact .inl (h1 (.inl q))
      · exact .inl (h1 (.inr q))
      · exact .inr (h3 q)
    · simp only [pairsN, List.flatten_cons, List.length_append]
      omega
theorem sortN_mem (x : Int × Nat) (f : Nat) : ∀ (n : Nat) (xs : List (List (Int × Nat))), xs.flatten.length < f → x ∈ xs.flatten → x ∈ (sortN f n xs).flatten
  | 0, xs, h, q => q
  | n + 1, xs, h, q => by
    obtain ⟨h1, h2⟩ := pairsN_mem x f xs h
    exact sortN_mem x f n _ (by omega) (h1 q)
theorem upB_lt : ∀ {xs : List (Int × Nat)} {a : Int × Nat}, upB (a :: xs) = true → ∀ b ∈ xs, a.1 < b.1
  | [], a, h, b, q => by simp at q
  | c :: xs, a, h, b, q => by
    simp only [upB, Bool.and_eq_true, decide_eq_true_eq] at h
    rcases List.mem_cons.mp q with q | q
    · subst q; exact h.1
    · have := upB_lt h.2 b q
      omega
theorem upB_inj : ∀ {xs : List (Int × Nat)}, upB xs = true → ∀ a ∈ xs, ∀ b ∈ xs, a.1 = b.1 → a = b
  | [], h, a, q, b, r, e => by simp at q
  | c :: xs, h, a, q, b, r, e => by
    have lt := upB_lt h
    have up : upB xs = true := by
      cases xs with
      | nil => rfl
      | cons d xs => simp only [upB, Bool.and_eq_true] at h; exact h.2
    rcases List.mem_cons.mp q with q | q
    · rcases List.mem_cons.mp r with r | r
      · rw [q, r]
      · have := lt b r; rw [q] at e; omega
    · rcases List.mem_cons.mp r with r | r
      · have := lt a q; rw [r] at e; omega
      · exact upB_inj up a q b r e
def allN : List (List (Int × Nat)) := (List.range 12).flatMap fun c => (List.range 402).map fun k => [(hashN c k, c * 402 + k)]
theorem sorted_ok : ((sortN 5000 13 allN).all upB && decide ((sortN 5000 13 allN).length = 1) && decide (allN.flatten.length < 5000)) = true := by decide +kernel
theorem hashN_inj {c k c' k' : Nat} (h1 : c < 12) (h2 : k < 402) (h3 : c' < 12) (h4 : k' < 402) (e : hashN c k = hashN c' k') : c = c' ∧ k = k' := by
  have ok := sorted_ok
  simp only [Bool.and_eq_true, decide_eq_true_eq] at ok
  obtain ⟨⟨o1, o2⟩, o3⟩ := ok
  have mem : ∀ c k : Nat, c < 12 → k < 402 → (hashN c k, c * 402 + k) ∈ allN.flatten := fun c k a b => by
    refine List.mem_flatten.mpr ⟨[(hashN c k, c * 402 + k)], ?_, by simp⟩
    exact List.mem_flatMap.mpr ⟨c, List.mem_range.mpr a, List.mem_map.mpr ⟨k, List.mem_range.mpr b, rfl⟩⟩
  obtain ⟨L, eL⟩ := List.length_eq_one_iff.mp o2
  have m1 := sortN_mem _ 5000 13 allN o3 (mem c k h1 h2)
  have m2 := sortN_mem _ 5000 13 allN o3 (mem c' k' h3 h4)
  rw [eL] at m1 m2 o1
  simp only [List.flatten_cons, List.flatten_nil, List.append_nil] at m1 m2
  simp only [List.all_cons, List.all_nil, Bool.and_true] at o1
  have z := upB_inj o1 _ m1 _ m2 e
  have z2 : c * 402 + k = c' * 402 + k' := congrArg Prod.snd z
  omega
theorem hash_nodup (w : World) {xs : List (Nat × Nat)} (nd : xs.Nodup) (h : ∀ x ∈ xs, x.1 < 12 ∧ x.2 < 402) : (xs.map fun x => (keyN x.1 x.2).hash w).Nodup := by
  unfold List.Nodup at nd ⊢
  rw [List.pairwise_map]
  refine nd.imp_of_mem ?_
  intro x y hx hy ne e
  have := hashN_inj (h x hx).1 (h x hx).2 (h y hy).1 (h y hy).2 e
  exact ne (Prod.ext this.1 this.2)
end DL

set_option Elab.async false
set_option linter.all false
set_option maxRecDepth 100000
set_option maxHeartbeats 4000000
namespace DL
open PySem L2 PyProof.Rows

/-! ### what is kept of a map -/
def Ext (M M' : DM) : Prop := ∀ a o, M a = some o → M' a = some o
theorem Ext.refl (M : DM) : Ext M M := fun _ _ h => h
theorem Ext.trans {M1 M2 M3 : DM} (a : Ext M1 M2) (b : Ext M2 M3) : Ext M1 M3 := fun x o h => b x o (a x o h)
theorem Ext.new {M : DM} {p : Addr} (h : M p = none) (o : DO) : Ext M (put M p o) := fun a u e => by
  rw [put_ne fun z => by rw [z, h] at e; cases e]; exact e
theorem Ext.free {M M' : DM} (e : Ext M M') {p : Addr} (h : M' p = none) : M p = none := by
  cases c : M p with
  | none => rfl
  | some o => rw [e p o c] at h; cases h
theorem Ext.ne {M : DM} {p a : Addr} {o : DO} (h : M p = none) (e : M a = some o) : a ≠ p := fun z => by rw [z, h] at e; cases e
theorem Ext.lst {M M' : DM} (e : Ext M M') {x : DV} {xs : List DV} (h : DL.listOf M x = some xs) : DL.listOf M' x = some xs := by
  cases x with
  | d y => cases y <;> exact h
  | tp x => exact h
  | ref a =>
    unfold DL.listOf at h ⊢
    cases c : M a with
    | none => simp only [c] at h; cases h
    | some o => simp only [c] at h; simp only [e a o c]; exact h

/-! ### vectors, sheets, acts: as data and as worked out -/
abbrev Vec := List Nat
def vecD (v : Vec) : PyData := .tuple (v.map fun n : Nat => .int n)
def vecV (v : Vec) : DV := .d (vecD v)
inductive Act where
  | make (c : Nat)
  | tell (a b : Nat)
  | meet (a b : Nat)
def Act.data : Act → PyData
  | make c => .tuple [.str "make", .int c]
  | tell a b => .tuple [.str "tell", .int a, .int b]
  | meet a b => .tuple [.str "meet", .int a, .int b]
def Act.ok (n : Nat) : Act → Prop
  | make c => c < n
  | tell a b => a < n ∧ b < n ∧ a ≠ b
  | meet a b => a < n ∧ b < n ∧ a ≠ b
def meetV (a b : Vec) : Vec := List.zipWith (fun x y => min x y) a b
def joinV (a b : Vec) : Vec := List.zipWith (fun x y => max x y) a b
def raisedV (v : Vec) (c : Nat) : Vec := v.set c (v.getD c 0 + 1)
abbrev Sheet := List Vec
abbrev Sheets := List Sheet
def joinedS (s t : Sheet) : Sheet := List.zipWith joinV s t
def at2 (F : Sheets) (i j : Nat) : Vec := (F.getD i []).getD j []
def behindF (F : Sheets) : Act → Sheets
  | .make c => F.set c ((F.getD c []).set c (raisedV (at2 F c c) c))
  | .tell a b => F.set b ((joinedS (F.getD a []) (F.getD b [])).set b (joinV (at2 F a a) (at2 F b b)))
  | .meet a b =>
    let s := ((joinedS (F.getD a []) (F.getD b [])).set b (joinV (at2 F a a) (at2 F b b))).set a (joinV (at2 F a a) (at2 F b b))
    (F.set a s).set b s
def sheets0 (n : Nat) : Sheets := List.replicate n (List.replicate n (List.replicate n 0))
def sheetsF (n : Nat) (acts : List Act) : Sheets := acts.foldl behindF (sheets0 n)
def leastS (s : Sheet) : Vec := s.tail.foldl meetV (s.headD [])
def sureF (n : Nat) (acts : List Act) : List Vec := (sheetsF n acts).map leastS
/-- n rows of n vectors of n numbers -/
structure Sq (n : Nat) (F : Sheets) : Prop where
  len : F.length = n
  row : ∀ s ∈ F, s.length = n ∧ ∀ v ∈ s, v.length = n
/-- lists of vectors at refs, which are what stands in the list p -/
structure RowsAt (M : DM) (p : Addr) (refs : List Addr) (F : Sheets) : Prop where
  top : M p = some (.lst (refs.map .ref))
  len : refs.length = F.length
  nd : refs.Nodup
  row : ∀ i r, refs[i]? = some r → M r = some (.lst ((F.getD i []).map vecV))
  out : p ∉ refs

/-! ### what each def is promised to do -/
def sp_meet : DSp := fun ds M Q => ∃ a b, ds = [vecV a, vecV b] ∧ a.length ≤ 1000 ∧ b.length ≤ 1000 ∧ Q (vecV (meetV a b)) M
def sp_join : DSp := fun ds M Q => ∃ a b, ds = [vecV a, vecV b] ∧ a.length ≤ 1000 ∧ b.length ≤ 1000 ∧ Q (vecV (joinV a b)) M
def sp_raised : DSp := fun ds M Q => ∃ (v : Vec) (c : Nat), ds = [vecV v, .d (.int c)] ∧ c < v.length ∧ v.length ≤ 1000 ∧ Q (vecV (raisedV v c)) M
def sp_joined : DSp := fun ds M Q => ∃ (x y : DV) (s t : Sheet), ds = [x, y] ∧ listOf M x = some (s.map vecV) ∧ listOf M y = some (t.map vecV) ∧ s.length ≤ 1000 ∧ t.length ≤ 1000 ∧ (∀ v ∈ s, v.length ≤ 1000) ∧ (∀ v ∈ t, v.length ≤ 1000) ∧
  ∀ p, M p = none → Q (.ref p) (put M p (.lst ((joinedS s t).map vecV)))
def sp_behind : DSp := fun ds M Q => ∃ (n : Nat) (p : Addr) (refs : List Addr) (F : Sheets) (act : Act), ds = [.ref p, .d act.data] ∧ n ≤ 12 ∧ Sq n F ∧ RowsAt M p refs F ∧ act.ok n ∧
  ∀ p' refs' M', Ext M M' → M p' = none → RowsAt M' p' refs' (behindF F act) → (∀ r ∈ refs', r ∈ refs ∨ M r = none) → Q (.ref p') M'
def sp_sheets : DSp := fun ds M Q => ∃ (n : Nat) (y : DV) (acts : List Act), ds = [.d (.int n), y] ∧ 1 ≤ n ∧ n ≤ 12 ∧ listOf M y = some (acts.map fun x => DV.d x.data) ∧ (∀ x ∈ acts, x.ok n) ∧
  ∀ p refs M', Ext M M' → M p = none → (∀ r ∈ refs, M r = none) → RowsAt M' p refs (sheetsF n acts) → Q (.ref p) M'
def sp_sure : DSp := fun ds M Q => ∃ (n : Nat) (y : DV) (acts : List Act), ds = [.d (.int n), y] ∧ 1 ≤ n ∧ n ≤ 12 ∧ listOf M y = some (acts.map fun x => DV.d x.data) ∧ (∀ x ∈ acts, x.ok n) ∧
  ∀ p M', Ext M M' → M p = none → M' p = some (.lst ((sureF n acts).map vecV)) → Q (.ref p) M'
/-- the deck that draws -/
def DeckO (o : DO) : Prop := ∃ (i s z : Int) (k : Nat) (xs : List Int), o = .lst [.d (.int i), .d (.int k), .d (.int s), .d (.list (xs.map .int)), .d (.int z)] ∧ 0 ≤ i
def sp__law_deck (K : PySem.W.Frag) : DSp := fun ds M Q => ∃ x ns, ds = [x] ∧ ReadS K M x ns ∧ ∀ p o, M p = none → DeckO o → Q (.ref p) (put M p o)
def sp__law_draw : DSp := fun ds M Q => ∃ (a : Addr) (b : Int) (o : DO), ds = [.ref a, .d (.int b)] ∧ 0 < b ∧ b < 1073741824 ∧ M a = some o ∧ DeckO o ∧ ∀ (v : Nat) (o' : DO), (v : Int) < b → DeckO o' → Q (.d (.int v)) (put M a o')
def sp__law_join : DSp := fun ds M Q => ∃ a b, ds = [vecV a, vecV b] ∧ a.length ≤ 1000 ∧ a.length = b.length ∧ Q (vecV (joinV a b)) M
def actsD (acts : List Act) : PyData := .list (acts.map Act.data)
def sp__law_deeds : DSp := fun ds M Q => ∃ (a : Addr) (n c : Nat) (o : DO), ds = [.ref a, .d (.int n), .d (.int c)] ∧ 1 ≤ n ∧ n ≤ 12 ∧ c ≤ 400 ∧ M a = some o ∧ DeckO o ∧
  ∀ (acts : List Act) (o' : DO), acts.length = c → (∀ x ∈ acts, x.ok n) → DeckO o' → Q (.d (actsD acts)) (put M a o')
/-- changes that are known, in the sequence in which they were put in -/
abbrev Kn := List (Nat × Nat)
def ins (s : Kn) (x : Nat × Nat) : Kn := if x ∈ s then s else s ++ [x]
def mrg (s t : Kn) : Kn := t.foldl ins s
def knD (s : Kn) : List (NestedKey × DV) := s.map fun x => (keyN x.1 x.2, .d (.bool true))
def rowsStep (st : List Kn × List Nat) : Act → List Kn × List Nat
  | .make c => (st.1.set c (ins (st.1.getD c []) (c, st.2.getD c 0 + 1)), st.2.set c (st.2.getD c 0 + 1))
  | .tell a b => (st.1.set b (mrg (st.1.getD b []) (st.1.getD a [])), st.2)
  | .meet a b => ((st.1.set b (mrg (st.1.getD b []) (st.1.getD a []))).set a (mrg (st.1.getD a []) (st.1.getD b [])), st.2)
def rowsF (n : Nat) (acts : List Act) : List Kn := (acts.foldl rowsStep (List.replicate n [], List.replicate n 0)).1
def sp__law_rows : DSp := fun ds M Q => ∃ (n : Nat) (acts : List Act), ds = [.d (.int n), .d (actsD acts)] ∧ 1 ≤ n ∧ n ≤ 12 ∧ acts.length ≤ 400 ∧ (∀ x ∈ acts, x.ok n) ∧
  ∀ (p q : Addr) (more : List DV) (refs : List Addr) (M' : DM), Ext M M' → M' p = some (.lst (more ++ [.ref q])) → M' q = some (.lst (refs.map .ref)) → refs.length = n → (∀ i r, refs[i]? = some r → M' r = some (.dN (knD ((rowsF n acts).getD i [])))) → Q (.ref p) M'
def cntK (s : Kn) (n : Nat) : Vec := (List.range n).map fun c => s.countP fun x => x.1 = c
def sp__law_vector : DSp := fun ds M Q => ∃ (n : Nat) (a : Addr) (s : Kn), ds = [.d (.int n), .ref a] ∧ n ≤ 12 ∧ M a = some (.dN (knD s)) ∧ s.length ≤ 10000 ∧ Q (vecV (cntK s n)) M
abbrev Tab := Nat → Nat → Kn
def tSet (T : Tab) (i j : Nat) (s : Kn) : Tab := fun i' j' => if i' = i ∧ j' = j then s else T i' j'
def tPairs : Act → List (Nat × Nat)
  | .make _ => []
  | .tell a b => [(a, b)]
  | .meet a b => [(a, b), (b, a)]
def tellRow (B : Tab) (T : Tab) (p : Nat × Nat) (k : Nat) : Tab := (List.range k).foldl (fun T k => tSet T p.2 k (mrg (T p.2 k) (B p.1 k))) T
def tellT (n : Nat) (B : Tab) (T : Tab) (p : Nat × Nat) : Tab := tSet (tellRow B T p n) p.2 p.2 (mrg (tellRow B T p n p.2 p.2) (B p.1 p.1))
def metT (B : Tab) (T : Tab) (p : Nat × Nat) : Tab := tSet T p.2 p.1 (mrg (T p.2 p.1) (B p.2 p.2))
def tabStep (n : Nat) (st : Tab × List Nat) : Act → Tab × List Nat
  | .make c => (tSet st.1 c c (ins (st.1 c c) (c, st.2.getD c 0 + 1)), st.2.set c (st.2.getD c 0 + 1))
  | .tell a b => ((tPairs (.tell a b)).foldl (tellT n st.1) st.1, st.2)
  | .meet a b => ((tPairs (.meet a b)).foldl (metT st.1) ((tPairs (.meet a b)).foldl (tellT n st.1) st.1), st.2)
def tab0 (n : Nat) : Tab × List Nat := (fun _ _ => [], List.replicate n 0)
def tabF (n : Nat) (acts : List Act) : Tab := (acts.foldl (tabStep n) (tab0 n)).1
/-- a list of lists of dicts -/
def TabAt (n : Nat) (M : DM) (p : Addr) (T : Tab) : Prop := ∃ (row : Nat → Addr) (cell : Nat → Nat → Addr), M p = some (.lst ((List.range n).map fun i => .ref (row i))) ∧ ∀ i, i < n → M (row i) = some (.lst ((List.range n).map fun j => .ref (cell i j))) ∧
  ∀ j, j < n → M (cell i j) = some (.dN (knD (T i j)))
def sp__law_tables : DSp := fun ds M Q => ∃ (n : Nat) (acts : List Act), ds = [.d (.int n), .d (actsD acts)] ∧ 1 ≤ n ∧ n ≤ 12 ∧ acts.length ≤ 400 ∧ (∀ x ∈ acts, x.ok n) ∧
  ∀ (p : Addr) (M' : DM), Ext M M' → TabAt n M' p (tabF n acts) → Q (.ref p) M'
/-- data that repr shows in a line -/
def showD (x : PyData) : Prop := x.showable = true ∧ x.hasDict = false ∧ x.depth ≤ 64 ∧ x.shown.length ≤ sizeLine
def sp__law_same : DSp := fun ds M Q => ∃ (x y : DV) (a : PyData) (n : Nat), ds = [x, y] ∧ rd 3 M x = some a ∧ rd 3 M y = some a ∧ okD n a ∧ n ≤ 64 ∧ showD a ∧ Q (.d (.bool true)) M
def sp_law (K : PySem.W.Frag) : DSp := fun ds M Q => ∃ x ns, ds = [x] ∧ ReadS K M x ns ∧ ∀ M', Q (.d (.bool true)) M'
end DL

set_option Elab.async false
set_option linter.all false
set_option maxRecDepth 100000
set_option maxHeartbeats 4000000
namespace DL
open PySem L2 PyProof.Rows
/-- meet: 0 first, 1 second, 2 one, 3 two -/
def N_meet : List Str := ["first", "second", "one", "two"]
def w_meet : TDS := (dRet (dCB rTuple1 (dCons (dLcF (dZip (dCons (dVar 0) (dCons (dVar 1) dNil))) (dgTup 2 (dgCons (dgName 2) (dgCons (dgName 3) dgNil))) dYes (dCB (rInt2 fun i j => if j < i then j else i) (dCons (dVar 2) (dCons (dVar 3) dNil))) [2, 3]) dNil)))
/-- join: 0 first, 1 second, 2 one, 3 two -/
def N_join : List Str := ["first", "second", "one", "two"]
def w_join : TDS := (dRet (dCB rTuple1 (dCons (dLcF (dZip (dCons (dVar 0) (dCons (dVar 1) dNil))) (dgTup 2 (dgCons (dgName 2) (dgCons (dgName 3) dgNil))) dYes (dCB (rInt2 fun i j => if j > i then j else i) (dCons (dVar 2) (dCons (dVar 3) dNil))) [2, 3]) dNil)))
/-- raised: 0 vector, 1 copy -/
def N_raised : List Str := ["vector", "copy"]
def w_raised : TDS := (dRet (dOp rAddD (dOp rAddD (dSl rSlTD (dVar 0) dNoPart (dPart (dVar 1))) (dTup (dCons (dOp rAddD (dOp rIxD (dVar 0) (dVar 1)) (dC (.int 1))) dNil))) (dSl rSlTD (dVar 0) (dPart (dOp rAddD (dVar 1) (dC (.int 1)))) dNoPart)))
/-- joined: 0 first, 1 second, 2 one, 3 other -/
def N_joined : List Str := ["first", "second", "one", "other"]
def w_joined : TDS := (dRet (dLc (dZip (dCons (dVar 0) (dCons (dVar 1) dNil))) (dgTup 2 (dgCons (dgName 2) (dgCons (dgName 3) dgNil))) dYes (dCall sp_join [] (dCons (dVar 2) (dCons (dVar 3) dNil))) [2, 3]))
/-- behind: 0 found, 1 act, 2 one, 3 sheet, 4 other, 5 both, 6 heard -/
def N_behind : List Str := ["found", "act", "one", "sheet", "other", "both", "heard"]
def w_behind : TDS := (dSeq (dAsg (dCB rList1 (dCons (dVar 0) dNil)) (dgName 0))
  (dSeq (dAsg (dOp rIxD (dVar 1) (dC (.int 1))) (dgName 2))
  (dSeq (dIfS (dTest (dOp (rEqE false) (dOp rIxD (dVar 1) (dC (.int 0))) (dC (.str "make")))) (dSeq (dAsg (dCB rList1 (dCons (dOp rIxD (dVar 0) (dVar 2)) dNil)) (dgName 3))
  (dSeq (dAsg (dCall sp_raised [] (dCons (dOp rIxD (dVar 3) (dVar 2)) (dCons (dVar 2) dNil))) (dgSub (dVar 3) (dVar 2) rSetLD))
  (dSeq (dAsg (dVar 3) (dgSub (dVar 0) (dVar 2) rSetLD))
  (dRet (dVar 0))))) dNext)
  (dSeq (dAsg (dOp rIxD (dVar 1) (dC (.int 2))) (dgName 4))
  (dSeq (dAsg (dCall sp_joined [] (dCons (dOp rIxD (dVar 0) (dVar 2)) (dCons (dOp rIxD (dVar 0) (dVar 4)) dNil))) (dgName 5))
  (dSeq (dAsg (dCall sp_join [] (dCons (dOp rIxD (dOp rIxD (dVar 0) (dVar 2)) (dVar 2)) (dCons (dOp rIxD (dOp rIxD (dVar 0) (dVar 4)) (dVar 4)) dNil))) (dgName 6))
  (dSeq (dAsg (dVar 6) (dgSub (dVar 5) (dVar 4) rSetLD))
  (dSeq (dIfS (dTest (dOp (rEqE false) (dOp rIxD (dVar 1) (dC (.int 0))) (dC (.str "meet")))) (dSeq (dAsg (dVar 6) (dgSub (dVar 5) (dVar 2) rSetLD))
  (dAsg (dCB rList1 (dCons (dVar 5) dNil)) (dgSub (dVar 0) (dVar 2) rSetLD))) dNext)
  (dSeq (dAsg (dVar 5) (dgSub (dVar 0) (dVar 4) rSetLD))
  (dRet (dVar 0)))))))))))
/-- sheets: 0 copies, 1 acts, 2 found, 3 act, 4 _ -/
def N_sheets : List Str := ["copies", "acts", "found", "act", "_"]
def w_sheets : TDS := (dSeq (dAsg (dLc (dRng1 (dCons (dVar 0) dNil)) (dgName 4) dYes (dLc (dRng1 (dCons (dVar 0) dNil)) (dgName 4) dYes (dOp rMulE (dTup (dCons (dC (.int 0)) dNil)) (dVar 0)) [4]) [4]) (dgName 2))
  (dSeq (dFor (dIterL (dVar 1)) (dgName 3) (dAsg (dCall sp_behind [] (dCons (dVar 2) (dCons (dVar 3) dNil))) (dgName 2)))
  (dRet (dVar 2))))
/-- sure: 0 copies, 1 acts, 2 found, 3 sheet, 4 vector, 5 other -/
def N_sure : List Str := ["copies", "acts", "found", "sheet", "vector", "other"]
def w_sure : TDS := (dSeq (dAsg (dLst dNil) (dgName 2))
  (dSeq (dFor (dIterL (dCall sp_sheets [] (dCons (dVar 0) (dCons (dVar 1) dNil)))) (dgName 3) (dSeq (dAsg (dOp rIxD (dVar 3) (dC (.int 0))) (dgName 4))
  (dSeq (dFor (dIterL (dSl rSlLF (dVar 3) (dPart (dC (.int 1))) dNoPart)) (dgName 5) (dAsg (dCall sp_meet [] (dCons (dVar 4) (dCons (dVar 5) dNil))) (dgName 4)))
  (dDrop (dBM isLst rAppendD (dVar 2) (dCons (dVar 4) dNil))))))
  (dRet (dVar 2))))
/-- _law_deck: 0 script, 1 seed, 2 cell -/
def N__law_deck : List Str := ["script", "seed", "cell"]
def w__law_deck (KK : PySem.W.Frag) : TDS := (dSeq (dAsg (dC (.int 7)) (dgName 1))
  (dSeq (dFor (dIterS KK (dVar 0)) (dgName 2) (dAsg (dOp (rIntD (fun _ j => 0 < j) fun i j => .int (i % j)) (dCB rInt1 (dCons (dOp rAddD (dOp rMulE (dVar 1) (dC (.int 48271))) (dVar 2)) dNil)) (dC (.int 2147483647))) (dgName 1)))
  (dRet (dLst (dCons (dC (.int 0)) (dCons (dC (.int 0)) (dCons (dVar 1) (dCons (dCB (rListS KK) (dCons (dVar 0) dNil)) (dCons (dC (.int 0)) dNil)))))))))
/-- _law_draw: 0 deck, 1 bound, 2 number, 3 value -/
def N__law_draw : List Str := ["deck", "bound", "number", "value"]
def w__law_draw : TDS := (dSeq (dIfS (dAnd (dTest (dOp (rEqE false) (dOp rIxD (dVar 0) (dC (.int 0))) (dC (.int 0)))) (dTest (dOp (rIntD CT fun i j => .bool (decide (i < j))) (dOp rIxD (dVar 0) (dC (.int 1))) (dCB rLen (dCons (dOp rIxD (dVar 0) (dC (.int 3))) dNil))))) (dSeq (dAsg (dCB rAbs (dCons (dOp rIxD (dOp rIxD (dVar 0) (dC (.int 3))) (dOp rIxD (dVar 0) (dC (.int 1)))) dNil)) (dgSub (dVar 0) (dC (.int 0)) rSetLD))
  (dAsg (dOp rAddD (dOp rIxD (dVar 0) (dC (.int 1))) (dC (.int 1))) (dgSub (dVar 0) (dC (.int 1)) rSetLD))) (dIfS (dTest (dOp (rEqE false) (dOp rIxD (dVar 0) (dC (.int 0))) (dC (.int 0)))) (dSeq (dAsg (dOp rAddD (dOp rIxD (dVar 0) (dC (.int 4))) (dC (.int 1))) (dgSub (dVar 0) (dC (.int 4)) rSetLD))
  (dSeq (dAsg (dOp (rIntD (fun _ j => 0 < j) fun i j => .int (i % j)) (dCB rInt1 (dCons (dOp rAddD (dOp rAddD (dOp rMulE (dOp rIxD (dVar 0) (dC (.int 2))) (dC (.int 48271))) (dOp rMulE (dOp rIxD (dVar 0) (dC (.int 4))) (dC (.int 69621)))) (dC (.int 12345))) dNil)) (dC (.int 2147483647))) (dgName 2))
  (dSeq (dAsg (dOp (rIntD (fun _ j => 0 < j) fun i j => .int (i % j)) (dCB rInt1 (dCons (dOp rAddD (dOp rAddD (dOp rMulE (dVar 2) (dVar 2)) (dOp rMulE (dC (.int 16807)) (dOp rIxD (dVar 0) (dC (.int 4))))) (dC (.int 7))) dNil)) (dC (.int 998244353))) (dgName 2))
  (dSeq (dAsg (dOp (rIntD (fun _ j => 0 < j) fun i j => .int (i % j)) (dCB rInt1 (dCons (dOp rAddD (dOp rAddD (dOp rMulE (dVar 2) (dVar 2)) (dOp rMulE (dC (.int 48271)) (dOp rIxD (dVar 0) (dC (.int 4))))) (dOp rIxD (dVar 0) (dC (.int 2)))) dNil)) (dC (.int 2147483629))) (dgName 2))
  (dAsg (dOp (rIntD CDiv fun i j => .int (i / j)) (dVar 2) (dC (.int 13))) (dgSub (dVar 0) (dC (.int 0)) rSetLD)))))) dNext))
  (dSeq (dAsg (dOp (rIntD (fun _ j => 0 < j) fun i j => .int (i % j)) (dCB rInt1 (dCons (dOp rIxD (dVar 0) (dC (.int 0))) dNil)) (dVar 1)) (dgName 3))
  (dSeq (dAsg (dOp (rIntD CDiv fun i j => .int (i / j)) (dOp rIxD (dVar 0) (dC (.int 0))) (dVar 1)) (dgSub (dVar 0) (dC (.int 0)) rSetLD))
  (dRet (dVar 3)))))
/-- _law_join: 0 one, 1 other, 2 k -/
def N__law_join : List Str := ["one", "other", "k"]
def w__law_join : TDS := (dRet (dCB rTuple1 (dCons (dLcF (dRng1 (dCons (dCB rLen (dCons (dVar 0) dNil)) dNil)) (dgName 2) dYes (dCB (rInt2 fun i j => if j > i then j else i) (dCons (dOp rIxD (dVar 0) (dVar 2)) (dCons (dOp rIxD (dVar 1) (dVar 2)) dNil))) [2]) dNil)))
/-- _law_deeds: 0 deck, 1 copies, 2 count, 3 deeds, 4 near, 5 k, 6 one, 7 other, 8 kind -/
def N__law_deeds : List Str := ["deck", "copies", "count", "deeds", "near", "k", "one", "other", "kind"]
def w__law_deeds : TDS := (dSeq (dAsg (dLst dNil) (dgName 3))
  (dSeq (dAsg (dCall sp__law_draw [] (dCons (dVar 0) (dCons (dC (.int 3)) dNil))) (dgName 4))
  (dSeq (dFor (dRng1 (dCons (dVar 2) dNil)) (dgName 5) (dSeq (dAsg (dCall sp__law_draw [] (dCons (dVar 0) (dCons (dVar 1) dNil))) (dgName 6))
  (dSeq (dAsg (dCall sp__law_draw [] (dCons (dVar 0) (dCons (dVar 1) dNil))) (dgName 7))
  (dSeq (dIfS (dTest (dOp (rEqE false) (dVar 4) (dC (.int 1)))) (dAsg (dOp (rIntD (fun _ j => 0 < j) fun i j => .int (i % j)) (dCB rInt1 (dCons (dOp rAddD (dVar 6) (dC (.int 1))) dNil)) (dVar 1)) (dgName 7)) dNext)
  (dSeq (dAsg (dCall sp__law_draw [] (dCons (dVar 0) (dCons (dC (.int 6)) dNil))) (dgName 8))
  (dIfS (dOr (dTest (dOp (rEqE false) (dVar 8) (dC (.int 0)))) (dTest (dOp (rEqE false) (dVar 6) (dVar 7)))) (dDrop (dBM isLst rAppendD (dVar 3) (dCons (dTup (dCons (dC (.str "make")) (dCons (dVar 6) dNil))) dNil))) (dDrop (dBM isLst rAppendD (dVar 3) (dCons (dTup (dCons (dOp rIxD (dLstF (dCons (dC (.str "tell")) (dCons (dC (.str "meet")) dNil))) (dOp (rIntD (fun _ j => 0 < j) fun i j => .int (i % j)) (dCB rInt1 (dCons (dVar 8) dNil)) (dC (.int 2)))) (dCons (dVar 6) (dCons (dVar 7) dNil)))) dNil)))))))))
  (dGhost (gFrz 3) (dRet (dVar 3))))))
/-- _law_rows: 0 copies, 1 deeds, 2 rows, 3 made, 4 deed, 5 knows, 6 copy, 7 row -/
def N__law_rows : List Str := ["copies", "deeds", "rows", "made", "deed", "knows", "copy", "row"]
def w__law_rows (WW : World) : TDS := (dSeq (dAsg (dLst (dCons (dLc (dRng1 (dCons (dVar 0) dNil)) (dgName 6) dYes dDNewN [6]) dNil)) (dgName 2))
  (dSeq (dAsg (dOp rMulE (dLst (dCons (dC (.int 0)) dNil)) (dVar 0)) (dgName 3))
  (dSeq (dFor (dIterL (dVar 1)) (dgName 4) (dSeq (dAsg (dLc (dIterL (dOp rIxD (dVar 2) (dUn rNegD (dC (.int 1))))) (dgName 7) dYes (dCB (rDictN WW) (dCons (dVar 7) dNil)) [7]) (dgName 5))
  (dSeq (dIfS (dTest (dOp (rEqE false) (dOp rIxD (dVar 4) (dC (.int 0))) (dC (.str "make")))) (dSeq (dAsg (dOp rAddD (dOp rIxD (dVar 3) (dOp rIxD (dVar 4) (dC (.int 1)))) (dC (.int 1))) (dgSub (dVar 3) (dOp rIxD (dVar 4) (dC (.int 1))) rSetLD))
  (dAsg (dC (.bool true)) (dgSub (dOp rIxD (dVar 5) (dOp rIxD (dVar 4) (dC (.int 1)))) (dTup (dCons (dOp rIxD (dVar 4) (dC (.int 1))) (dCons (dOp rIxD (dVar 3) (dOp rIxD (dVar 4) (dC (.int 1)))) dNil))) rSetN))) (dDrop (dBM isDN (rUpdN WW) (dOp rIxD (dVar 5) (dOp rIxD (dVar 4) (dC (.int 2)))) (dCons (dOp rIxD (dOp rIxD (dVar 2) (dUn rNegD (dC (.int 1)))) (dOp rIxD (dVar 4) (dC (.int 1)))) dNil))))
  (dSeq (dIfS (dTest (dOp (rEqE false) (dOp rIxD (dVar 4) (dC (.int 0))) (dC (.str "meet")))) (dDrop (dBM isDN (rUpdN WW) (dOp rIxD (dVar 5) (dOp rIxD (dVar 4) (dC (.int 1)))) (dCons (dOp rIxD (dOp rIxD (dVar 2) (dUn rNegD (dC (.int 1)))) (dOp rIxD (dVar 4) (dC (.int 2)))) dNil))) dNext)
  (dDrop (dBM isLst rAppendD (dVar 2) (dCons (dVar 5) dNil)))))))
  (dRet (dVar 2)))))
/-- _law_vector: 0 copies, 1 knows, 2 copy, 3 one -/
def N__law_vector : List Str := ["copies", "knows", "copy", "one"]
def w__law_vector : TDS := (dRet (dCB rTuple1 (dCons (dLcF (dRng1 (dCons (dVar 0) dNil)) (dgName 2) dYes (dCB rLen (dCons (dLockE (dLcF (dKeysN (dVar 1)) (dgName 3) (dTest (dOp (rEqE false) (dOp rIxD (dVar 3) (dC (.int 0))) (dVar 2))) (dVar 3) [3])) dNil)) [2]) dNil)))
/-- _law_tables: 0 copies, 1 deeds, 2 rows, 3 made, 4 deed, 5 before, 6 pairs, 7 one, 8 other, 9 copy, 10 row, 11 knows -/
def N__law_tables : List Str := ["copies", "deeds", "rows", "made", "deed", "before", "pairs", "one", "other", "copy", "row", "knows"]
def w__law_tables (WW : World) : TDS := (dSeq (dAsg (dLc (dRng1 (dCons (dVar 0) dNil)) (dgName 9) dYes (dLc (dRng1 (dCons (dVar 0) dNil)) (dgName 8) dYes dDNewN [8]) [9]) (dgName 2))
  (dSeq (dAsg (dOp rMulE (dLst (dCons (dC (.int 0)) dNil)) (dVar 0)) (dgName 3))
  (dSeq (dFor (dIterL (dVar 1)) (dgName 4) (dIfS (dTest (dOp (rEqE false) (dOp rIxD (dVar 4) (dC (.int 0))) (dC (.str "make")))) (dSeq (dAsg (dOp rAddD (dOp rIxD (dVar 3) (dOp rIxD (dVar 4) (dC (.int 1)))) (dC (.int 1))) (dgSub (dVar 3) (dOp rIxD (dVar 4) (dC (.int 1))) rSetLD))
  (dAsg (dC (.bool true)) (dgSub (dOp rIxD (dOp rIxD (dVar 2) (dOp rIxD (dVar 4) (dC (.int 1)))) (dOp rIxD (dVar 4) (dC (.int 1)))) (dTup (dCons (dOp rIxD (dVar 4) (dC (.int 1))) (dCons (dOp rIxD (dVar 3) (dOp rIxD (dVar 4) (dC (.int 1)))) dNil))) rSetN))) (dSeq (dAsg (dLc (dIterL (dVar 2)) (dgName 10) dYes (dLc (dIterL (dVar 10)) (dgName 11) dYes (dCB (rDictN WW) (dCons (dVar 11) dNil)) [11]) [10]) (dgName 5))
  (dSeq (dAsg (dLst (dCons (dTup (dCons (dOp rIxD (dVar 4) (dC (.int 1))) (dCons (dOp rIxD (dVar 4) (dC (.int 2))) dNil))) dNil)) (dgName 6))
  (dSeq (dIfS (dTest (dOp (rEqE false) (dOp rIxD (dVar 4) (dC (.int 0))) (dC (.str "meet")))) (dDrop (dBM isLst rAppendD (dVar 6) (dCons (dTup (dCons (dOp rIxD (dVar 4) (dC (.int 2))) (dCons (dOp rIxD (dVar 4) (dC (.int 1))) dNil))) dNil))) dNext)
  (dSeq (dFor (dIterL (dVar 6)) (dgTup 2 (dgCons (dgName 7) (dgCons (dgName 8) dgNil))) (dSeq (dFor (dRng1 (dCons (dVar 0) dNil)) (dgName 9) (dDrop (dBM isDN (rUpdN WW) (dOp rIxD (dOp rIxD (dVar 2) (dVar 8)) (dVar 9)) (dCons (dOp rIxD (dOp rIxD (dVar 5) (dVar 7)) (dVar 9)) dNil))))
  (dDrop (dBM isDN (rUpdN WW) (dOp rIxD (dOp rIxD (dVar 2) (dVar 8)) (dVar 8)) (dCons (dOp rIxD (dOp rIxD (dVar 5) (dVar 7)) (dVar 7)) dNil)))))
  (dFor (dIterL (dVar 6)) (dgTup 2 (dgCons (dgName 7) (dgCons (dgName 8) dgNil))) (dIfS (dTest (dOp (rEqE false) (dOp rIxD (dVar 4) (dC (.int 0))) (dC (.str "meet")))) (dDrop (dBM isDN (rUpdN WW) (dOp rIxD (dOp rIxD (dVar 2) (dVar 8)) (dVar 7)) (dCons (dOp rIxD (dOp rIxD (dVar 5) (dVar 8)) (dVar 8)) dNil))) dNext))))))))
  (dRet (dVar 2)))))
/-- _law_same: 0 told, 1 due -/
def N__law_same : List Str := ["told", "due"]
def w__law_same : TDS := (dRet (dAndV (dOp (rEqE false) (dVar 0) (dVar 1)) (dOp (rEqE false) (dCB rReprD (dCons (dVar 0) dNil)) (dCB rReprD (dCons (dVar 1) dNil)))))
/-- law: 0 script, 1 deck, 2 copies, 3 deeds, 4 handed, 5 rows, 6 vectors, 7 last, 8 told, 9 certain, 10 copy, 11 least, 12 true, 13 kept, 14 row, 15 made, 16 meets, 17 knows, 18 k, 19 vector -/
def N_law : List Str := ["script", "deck", "copies", "deeds", "handed", "rows", "vectors", "last", "told", "certain", "copy", "least", "true", "kept", "row", "made", "meets", "knows", "k", "vector"]
def w_law (KK : PySem.W.Frag) : TDS := (dSeq (dAsg (dCall (sp__law_deck KK) [] (dCons (dVar 0) dNil)) (dgName 1))
  (dSeq (dAsg (dOp rAddD (dC (.int 1)) (dCall sp__law_draw [] (dCons (dVar 1) (dCons (dC (.int 12)) dNil)))) (dgName 2))
  (dSeq (dAsg (dCall sp__law_deeds [] (dCons (dVar 1) (dCons (dVar 2) (dCons (dCall sp__law_draw [] (dCons (dVar 1) (dCons (dOp rIxD (dLstF (dCons (dC (.int 41)) (dCons (dC (.int 41)) (dCons (dC (.int 41)) (dCons (dC (.int 41)) (dCons (dC (.int 41)) (dCons (dC (.int 401)) dNil))))))) (dCall sp__law_draw [] (dCons (dVar 1) (dCons (dC (.int 6)) dNil)))) dNil))) dNil)))) (dgName 3))
  (dSeq (dAsg (dCB rList1 (dCons (dVar 3) dNil)) (dgName 4))
  (dSeq (dAsg (dCall sp__law_tables [] (dCons (dVar 2) (dCons (dVar 3) dNil))) (dgName 5))
  (dSeq (dAsg (dLcF (dIterL (dVar 5)) (dgName 14) dYes (dLcF (dIterL (dVar 14)) (dgName 17) dYes (dCall sp__law_vector [] (dCons (dVar 2) (dCons (dVar 17) dNil))) [17]) [14]) (dgName 6))
  (dSeq (dAsg (dLcF (dIterL (dOp rIxD (dCall sp__law_rows [] (dCons (dVar 2) (dCons (dVar 3) dNil))) (dUn rNegD (dC (.int 1))))) (dgName 17) dYes (dCall sp__law_vector [] (dCons (dVar 2) (dCons (dVar 17) dNil))) [17]) (dgName 7))
  (dSeq (dAsg (dCall sp_sheets [] (dCons (dVar 2) (dCons (dVar 4) dNil))) (dgName 8))
  (dSeq (dAsg (dCall sp_sure [] (dCons (dVar 2) (dCons (dVar 4) dNil))) (dgName 9))
  (dSeq (dIfS (dOr (dNot (dTest (dCall sp__law_same [] (dCons (dVar 8) (dCons (dVar 6) dNil))))) (dOr (dTest (dOp (rEqE true) (dCB rLen (dCons (dVar 9) dNil)) (dVar 2))) (dTest (dOp (rEqE true) (dVar 4) (dVar 3))))) (dRet (dC (.bool false))) dNext)
  (dSeq (dFor (dRng1 (dCons (dVar 2) dNil)) (dgName 10) (dSeq (dIfS (dTest (dOp (rEqE true) (dOp rIxD (dOp rIxD (dVar 6) (dVar 10)) (dVar 10)) (dOp rIxD (dVar 7) (dVar 10)))) (dRet (dC (.bool false))) dNext)
  (dSeq (dAsg (dCB rTuple1 (dCons (dLcF (dRng1 (dCons (dVar 2) dNil)) (dgName 18) dYes (dCB (rMostD fun y m => m ≤ y) (dCons (dLcF (dIterL (dOp rIxD (dVar 6) (dVar 10))) (dgName 19) dYes (dOp rIxD (dVar 19) (dVar 18)) [19]) dNil)) [18]) dNil)) (dgName 11))
  (dSeq (dAsg (dCB rTuple1 (dCons (dLcF (dRng1 (dCons (dVar 2) dNil)) (dgName 18) dYes (dCB (rMostD fun y m => m ≤ y) (dCons (dLcF (dIterL (dVar 7)) (dgName 19) dYes (dOp rIxD (dVar 19) (dVar 18)) [19]) dNil)) [18]) dNil)) (dgName 12))
  (dIfS (dOr (dNot (dTest (dCall sp__law_same [] (dCons (dOp rIxD (dVar 9) (dVar 10)) (dCons (dVar 11) dNil))))) (dTest (dOp (rEqE true) (dCall sp__law_join [] (dCons (dVar 11) (dCons (dVar 12) dNil))) (dVar 12)))) (dRet (dC (.bool false))) dNext)))))
  (dSeq (dAsg (dCB rList1F (dCons (dVar 9) dNil)) (dgName 13))
  (dSeq (dFor (dIterL (dVar 8)) (dgName 14) (dDrop (dBM isLst rAppendD (dVar 14) (dCons (dC (.str "spoilt")) dNil))))
  (dSeq (dDrop (dBM isLst rAppendD (dVar 9) (dCons (dC (.str "spoilt")) dNil)))
  (dSeq (dIfS (dNot (dTest (dCB (rAllD fun bs => bs.all id) (dCons (dLcF (dIterL (dVar 8)) (dgName 14) dYes (dOp (rEqE false) (dCB rLen (dCons (dVar 14) dNil)) (dOp rAddD (dVar 2) (dC (.int 1)))) [14]) dNil)))) (dRet (dC (.bool false))) dNext)
  (dSeq (dIfS (dOr (dTest (dOp (rEqE true) (dCall sp_sheets [] (dCons (dVar 2) (dCons (dVar 4) dNil))) (dVar 6))) (dTest (dOp (rEqE true) (dCall sp_sure [] (dCons (dVar 2) (dCons (dVar 4) dNil))) (dVar 13)))) (dRet (dC (.bool false))) dNext)
  (dSeq (dAsg (dCB rTuple1 (dCons (dLcF (dRng1 (dCons (dVar 2) dNil)) (dgName 10) dYes (dBM isLst rCountD (dSl rSlLF (dVar 3) dNoPart (dPart (dC (.int 300)))) (dCons (dTup (dCons (dC (.str "make")) (dCons (dVar 10) dNil))) dNil)) [10]) dNil)) (dgName 15))
  (dSeq (dAsg (dOp rAddD (dLc (dRng2 (dCons (dC (.int 1)) (dCons (dVar 2) dNil))) (dgName 10) dYes (dTup (dCons (dC (.str "tell")) (dCons (dVar 10) (dCons (dC (.int 0)) dNil)))) [10]) (dLc (dRng2 (dCons (dC (.int 1)) (dCons (dVar 2) dNil))) (dgName 10) dYes (dTup (dCons (dC (.str "tell")) (dCons (dC (.int 0)) (dCons (dVar 10) dNil)))) [10])) (dgName 16))
  (dRet (dOp (rEqE false) (dCall sp_sure [] (dCons (dVar 2) (dCons (dOp rAddD (dOp rAddD (dSl rSlLD (dVar 3) dNoPart (dPart (dC (.int 300)))) (dVar 16)) (dVar 16)) dNil))) (dOp rMulE (dLst (dCons (dVar 15) dNil)) (dVar 2))))))))))))))))))))))
end DL

set_option Elab.async false
set_option linter.all false
set_option maxRecDepth 100000
set_option maxHeartbeats 4000000
namespace DL
open PySem L2 PyProof.Rows
theorem vec_get {v : Vec} {i : Nat} (h : i < v.length) : (v.map fun n : Nat => DV.d (.int n))[i]? = some (.d (.int (v[i] : Nat))) := by
  simp [h]
theorem seq_vec {M : DM} {v : Vec} : seqOf M (vecV v) = some (v.map fun n : Nat => DV.d (.int n)) := by
  show some (List.map DV.d (v.map fun n : Nat => PyData.int n)) = _
  rw [List.map_map]
  rfl
theorem tup_vec {v : Vec} : tupOf (vecV v) = some (v.map fun n : Nat => DV.d (.int n)) := by
  show some (List.map DV.d (v.map fun n : Nat => PyData.int n)) = _
  rw [List.map_map]
  rfl
theorem mk_vec (v : Vec) : mkTup (v.map fun n : Nat => DV.d (.int n)) = vecV v := by
  have e : (v.map fun n : Nat => DV.d (.int n)) = (v.map fun n : Nat => PyData.int n).map DV.d := by rw [List.map_map]; rfl
  rw [e, mkTup_map]
  rfl
theorem data_vec (v : Vec) : dataL (v.map fun n : Nat => DV.d (.int n)) = some (v.map fun n : Nat => PyData.int n) := by
  have e : (v.map fun n : Nat => DV.d (.int n)) = (v.map fun n : Nat => PyData.int n).map DV.d := by rw [List.map_map]; rfl
  rw [e, dataL_map]
theorem cutD_len (xs : List DV) (lo hi : Option Int) : (cutD xs lo hi).length ≤ xs.length := by
  unfold cutD
  rw [List.length_take, List.length_drop]
  omega
theorem lenOk {α : Type} {xs : List α} (h : xs.length ≤ 1000) : xs.length ≤ sizeLine := Nat.le_trans h (by decide)
theorem thousand : (1000 : Nat) ≤ sizeLine := by decide
theorem zip_vec {a b : Vec} {i : Nat} {x : DV} (h : (zipD (a.map fun n : Nat => DV.d (.int n)) (b.map fun n : Nat => DV.d (.int n)))[i]? = some x) : ∃ m k : Nat, a[i]? = some m ∧ b[i]? = some k ∧ x = .d (.tuple [.int m, .int k]) := by
  unfold zipD at h
  rw [List.getElem?_zipWith, List.getElem?_map, List.getElem?_map] at h
  cases ea : a[i]? with
  | none => rw [ea] at h; simp at h
  | some m =>
    cases eb : b[i]? with
    | none => rw [ea, eb] at h; simp at h
    | some k =>
      rw [ea, eb] at h
      exact ⟨m, k, rfl, rfl, (Option.some.inj h).symm⟩
theorem rd_meet : ∀ ds M Q, sp_meet ds M Q → w_meet { nx := fun _ M' => Q (.d .none) M', rt := Q } (dstart N_meet ds) M := by
  rintro ds M Q ⟨a, b, rfl, ha, hb, q⟩
  unfold w_meet
  (repeat (with_reducible (first | refine wSeq ?_ | refine wAsg ?_ | refine wRet ?_ | refine wDrop ?_ | refine wName ?_ | (apply wVar; (case h => with_unfolding_all rfl)) | refine wC ?_ | refine wOp ?_ | refine wUn ?_ | refine wNil ?_ | refine wCons ?_ | refine wCB ?_ | refine wCall ?_ | refine wTest ?_ | refine wBool ?_ | refine wInt ?_ | refine wIfS ?_ | refine wIf ?_ | refine wAnd ?_ | refine wOr ?_ | refine wNot ?_ | refine wAndV ?_ | refine wOrV ?_ | refine wNotV ?_ | refine wTup ?_ | refine wLst ?_ | refine wLstF ?_ | refine wSl ?_ | refine wNoPart ?_ | refine wPart ?_ | refine wBM ?_ | refine wSub ?_ | refine wFor ?_ | refine wIterL ?_ | refine wRng1 ?_ | refine wZip ?_ | refine wLc ?_ | refine wLcF ?_ | refine wYes ?_ | refine wAddI ?_ | refine wIntT ?_ | refine wInt1 ?_ | refine wInt2 ?_ | refine wNext ?_)))
  refine ⟨_, _, rfl, .inl ⟨_, _, tup_vec, tup_vec, ?_⟩⟩
  refine lcW_map ((meetV a b).map fun n : Nat => DV.d (.int n)) ?_ ?_ trivial ?_ ?_
  · simp [zipD, meetV]
  · have := thousand; simp [zipD]; omega
  · intro i x y hx hy K k
    obtain ⟨m, l, ea, eb, rfl⟩ := zip_vec hx
    refine wPair rfl ?_
    (repeat (with_reducible (first | refine wSeq ?_ | refine wAsg ?_ | refine wRet ?_ | refine wDrop ?_ | refine wName ?_ | (apply wVar; (case h => with_unfolding_all rfl)) | refine wC ?_ | refine wOp ?_ | refine wUn ?_ | refine wNil ?_ | refine wCons ?_ | refine wCB ?_ | refine wCall ?_ | refine wTest ?_ | refine wBool ?_ | refine wInt ?_ | refine wIfS ?_ | refine wIf ?_ | refine wAnd ?_ | refine wOr ?_ | refine wNot ?_ | refine wAndV ?_ | refine wOrV ?_ | refine wNotV ?_ | refine wTup ?_ | refine wLst ?_ | refine wLstF ?_ | refine wSl ?_ | refine wNoPart ?_ | refine wPart ?_ | refine wBM ?_ | refine wSub ?_ | refine wFor ?_ | refine wIterL ?_ | refine wRng1 ?_ | refine wZip ?_ | refine wLc ?_ | refine wLcF ?_ | refine wYes ?_ | refine wAddI ?_ | refine wIntT ?_ | refine wInt1 ?_ | refine wInt2 ?_ | refine wNext ?_)))
    have e : y = .d (.int (if (l : Int) < m then (l : Int) else m)) := by
      rw [List.getElem?_map, meetV, List.getElem?_zipWith, ea, eb] at hy
      rw [← Option.some.inj hy]
      have z : ((min m l : Nat) : Int) = if (l : Int) < m then (l : Int) else m := by split <;> omega
      rw [← z]
    rw [← e]
    exact k
  · exact ⟨_, data_vec _, wTupF q⟩
theorem rd_join : ∀ ds M Q, sp_join ds M Q → w_join { nx := fun _ M' => Q (.d .none) M', rt := Q } (dstart N_join ds) M := by
  rintro ds M Q ⟨a, b, rfl, ha, hb, q⟩
  unfold w_join
  (repeat (with_reducible (first | refine wSeq ?_ | refine wAsg ?_ | refine wRet ?_ | refine wDrop ?_ | refine wName ?_ | (apply wVar; (case h => with_unfolding_all rfl)) | refine wC ?_ | refine wOp ?_ | refine wUn ?_ | refine wNil ?_ | refine wCons ?_ | refine wCB ?_ | refine wCall ?_ | refine wTest ?_ | refine wBool ?_ | refine wInt ?_ | refine wIfS ?_ | refine wIf ?_ | refine wAnd ?_ | refine wOr ?_ | refine wNot ?_ | refine wAndV ?_ | refine wOrV ?_ | refine wNotV ?_ | refine wTup ?_ | refine wLst ?_ | refine wLstF ?_ | refine wSl ?_ | refine wNoPart ?_ | refine wPart ?_ | refine wBM ?_ | refine wSub ?_ | refine wFor ?_ | refine wIterL ?_ | refine wRng1 ?_ | refine wZip ?_ | refine wLc ?_ | refine wLcF ?_ | refine wYes ?_ | refine wAddI ?_ | refine wIntT ?_ | refine wInt1 ?_ | refine wInt2 ?_ | refine wNext ?_)))
  refine ⟨_, _, rfl, .inl ⟨_, _, tup_vec, tup_vec, ?_⟩⟩
  refine lcW_map ((joinV a b).map fun n : Nat => DV.d (.int n)) ?_ ?_ trivial ?_ ?_
  · simp [zipD, joinV]
  · have := thousand; simp [zipD]; omega
  · intro i x y hx hy K k
    obtain ⟨m, l, ea, eb, rfl⟩ := zip_vec hx
    refine wPair rfl ?_
    (repeat (with_reducible (first | refine wSeq ?_ | refine wAsg ?_ | refine wRet ?_ | refine wDrop ?_ | refine wName ?_ | (apply wVar; (case h => with_unfolding_all rfl)) | refine wC ?_ | refine wOp ?_ | refine wUn ?_ | refine wNil ?_ | refine wCons ?_ | refine wCB ?_ | refine wCall ?_ | refine wTest ?_ | refine wBool ?_ | refine wInt ?_ | refine wIfS ?_ | refine wIf ?_ | refine wAnd ?_ | refine wOr ?_ | refine wNot ?_ | refine wAndV ?_ | refine wOrV ?_ | refine wNotV ?_ | refine wTup ?_ | refine wLst ?_ | refine wLstF ?_ | refine wSl ?_ | refine wNoPart ?_ | refine wPart ?_ | refine wBM ?_ | refine wSub ?_ | refine wFor ?_ | refine wIterL ?_ | refine wRng1 ?_ | refine wZip ?_ | refine wLc ?_ | refine wLcF ?_ | refine wYes ?_ | refine wAddI ?_ | refine wIntT ?_ | refine wInt1 ?_ | refine wInt2 ?_ | refine wNext ?_)))
    have e : y = .d (.int (if (l : Int) > m then (l : Int) else m)) := by
      rw [List.getElem?_map, joinV, List.getElem?_zipWith, ea, eb] at hy
      rw [← Option.some.inj hy]
      have z : ((max m l : Nat) : Int) = if (l : Int) > m then (l : Int) else m := by split <;> omega
      rw [← z]
    rw [← e]
    exact k
  · exact ⟨_, data_vec _, wTupF q⟩
theorem rd_raised : ∀ ds M Q, sp_raised ds M Q → w_raised { nx := fun _ M' => Q (.d .none) M', rt := Q } (dstart N_raised ds) M := by
  rintro ds M Q ⟨v, c, rfl, hc, hv, q⟩
  unfold w_raised
  (repeat (with_reducible (first | refine wSeq ?_ | refine wAsg ?_ | refine wRet ?_ | refine wDrop ?_ | refine wName ?_ | (apply wVar; (case h => with_unfolding_all rfl)) | refine wC ?_ | refine wOp ?_ | refine wUn ?_ | refine wNil ?_ | refine wCons ?_ | refine wCB ?_ | refine wCall ?_ | refine wTest ?_ | refine wBool ?_ | refine wInt ?_ | refine wIfS ?_ | refine wIf ?_ | refine wAnd ?_ | refine wOr ?_ | refine wNot ?_ | refine wAndV ?_ | refine wOrV ?_ | refine wNotV ?_ | refine wTup ?_ | refine wLst ?_ | refine wLstF ?_ | refine wSl ?_ | refine wNoPart ?_ | refine wPart ?_ | refine wBM ?_ | refine wSub ?_ | refine wFor ?_ | refine wIterL ?_ | refine wRng1 ?_ | refine wZip ?_ | refine wLc ?_ | refine wLcF ?_ | refine wYes ?_ | refine wAddI ?_ | refine wIntT ?_ | refine wInt1 ?_ | refine wInt2 ?_ | refine wNext ?_)))
  have c1 : ((c : Int) + 1) = ((c + 1 : Nat) : Int) := by omega
  refine ⟨_, tup_vec, ?_⟩
  (repeat (with_reducible (first | refine wSeq ?_ | refine wAsg ?_ | refine wRet ?_ | refine wDrop ?_ | refine wName ?_ | (apply wVar; (case h => with_unfolding_all rfl)) | refine wC ?_ | refine wOp ?_ | refine wUn ?_ | refine wNil ?_ | refine wCons ?_ | refine wCB ?_ | refine wCall ?_ | refine wTest ?_ | refine wBool ?_ | refine wInt ?_ | refine wIfS ?_ | refine wIf ?_ | refine wAnd ?_ | refine wOr ?_ | refine wNot ?_ | refine wAndV ?_ | refine wOrV ?_ | refine wNotV ?_ | refine wTup ?_ | refine wLst ?_ | refine wLstF ?_ | refine wSl ?_ | refine wNoPart ?_ | refine wPart ?_ | refine wBM ?_ | refine wSub ?_ | refine wFor ?_ | refine wIterL ?_ | refine wRng1 ?_ | refine wZip ?_ | refine wLc ?_ | refine wLcF ?_ | refine wYes ?_ | refine wAddI ?_ | refine wIntT ?_ | refine wInt1 ?_ | refine wInt2 ?_ | refine wNext ?_)))
  refine wIx c seq_vec (vec_get hc) rfl ?_
  (repeat (with_reducible (first | refine wSeq ?_ | refine wAsg ?_ | refine wRet ?_ | refine wDrop ?_ | refine wName ?_ | (apply wVar; (case h => with_unfolding_all rfl)) | refine wC ?_ | refine wOp ?_ | refine wUn ?_ | refine wNil ?_ | refine wCons ?_ | refine wCB ?_ | refine wCall ?_ | refine wTest ?_ | refine wBool ?_ | refine wInt ?_ | refine wIfS ?_ | refine wIf ?_ | refine wAnd ?_ | refine wOr ?_ | refine wNot ?_ | refine wAndV ?_ | refine wOrV ?_ | refine wNotV ?_ | refine wTup ?_ | refine wLst ?_ | refine wLstF ?_ | refine wSl ?_ | refine wNoPart ?_ | refine wPart ?_ | refine wBM ?_ | refine wSub ?_ | refine wFor ?_ | refine wIterL ?_ | refine wRng1 ?_ | refine wZip ?_ | refine wLc ?_ | refine wLcF ?_ | refine wYes ?_ | refine wAddI ?_ | refine wIntT ?_ | refine wInt1 ?_ | refine wInt2 ?_ | refine wNext ?_)))
  refine ⟨lenOk (by simp), ?_⟩
  refine wAddT (tupOf_mkTup _) rfl ?_ ?_
  · have h1 : 3000 ≤ sizeLine := by decide
    have h2 := cutD_len (v.map fun n : Nat => DV.d (.int n)) none (some (c : Int)); simp at h2 ⊢; omega
  (repeat (with_reducible (first | refine wSeq ?_ | refine wAsg ?_ | refine wRet ?_ | refine wDrop ?_ | refine wName ?_ | (apply wVar; (case h => with_unfolding_all rfl)) | refine wC ?_ | refine wOp ?_ | refine wUn ?_ | refine wNil ?_ | refine wCons ?_ | refine wCB ?_ | refine wCall ?_ | refine wTest ?_ | refine wBool ?_ | refine wInt ?_ | refine wIfS ?_ | refine wIf ?_ | refine wAnd ?_ | refine wOr ?_ | refine wNot ?_ | refine wAndV ?_ | refine wOrV ?_ | refine wNotV ?_ | refine wTup ?_ | refine wLst ?_ | refine wLstF ?_ | refine wSl ?_ | refine wNoPart ?_ | refine wPart ?_ | refine wBM ?_ | refine wSub ?_ | refine wFor ?_ | refine wIterL ?_ | refine wRng1 ?_ | refine wZip ?_ | refine wLc ?_ | refine wLcF ?_ | refine wYes ?_ | refine wAddI ?_ | refine wIntT ?_ | refine wInt1 ?_ | refine wInt2 ?_ | refine wNext ?_)))
  refine ⟨_, tup_vec, ?_⟩
  refine wAddT (tupOf_mkTup _) (tupOf_mkTup _) ?_ ?_
  · have h1 : 3000 ≤ sizeLine := by decide
    have h2 := cutD_len (v.map fun n : Nat => DV.d (.int n)) none (some (c : Int))
    have h3 := cutD_len (v.map fun n : Nat => DV.d (.int n)) (some ((c : Int) + 1)) none
    simp at h2 h3 ⊢; omega
  have e : cutD (v.map fun n : Nat => DV.d (.int n)) none (some (c : Int)) ++ [DV.d (.int ((v[c] : Nat) + 1))] ++ cutD (v.map fun n : Nat => DV.d (.int n)) (some ((c : Int) + 1)) none = (raisedV v c).map fun n : Nat => DV.d (.int n) := by
    unfold cutD raisedV
    rw [HT.sIx_none, HT.sIx_nat, c1, HT.sIx_nat, HT.sIx_none]
    have l : (v.map fun n : Nat => DV.d (.int n)).length = v.length := by simp
    rw [l, Nat.min_eq_left (by omega), Nat.min_eq_left (by omega)]
    rw [List.set_eq_take_append_cons_drop, if_pos hc]
    have g : v.getD c 0 = v[c] := by simp [List.getD, hc]
    rw [g]
    simp only [List.drop_zero, Nat.sub_zero, List.map_append, List.map_cons, List.map_take, List.map_drop]
    have t : (v.map fun n : Nat => DV.d (.int n)).drop (c + 1) = ((v.map fun n : Nat => DV.d (.int n)).drop (c + 1)).take (v.length - (c + 1)) := by
      rw [List.take_of_length_le]
      simp
    rw [← t]
    simp
  show Q (mkTup (cutD (v.map fun n : Nat => DV.d (.int n)) none (some (c : Int)) ++ [DV.d (.int ((v[c] : Nat) + 1))] ++ cutD (v.map fun n : Nat => DV.d (.int n)) (some ((c : Int) + 1)) none)) M
  rw [e, mk_vec]
  exact q
end DL

set_option Elab.async false
set_option linter.all false
set_option maxRecDepth 100000
set_option maxHeartbeats 4000000
namespace DL
open PySem L2 PyProof.Rows
theorem zip_sheet {s t : Sheet} {i : Nat} {x : DV} (h : (zipD (s.map vecV) (t.map vecV))[i]? = some x) : ∃ a b : Vec, s[i]? = some a ∧ t[i]? = some b ∧ x = mkTup [vecV a, vecV b] := by
  unfold zipD at h
  rw [List.getElem?_zipWith, List.getElem?_map, List.getElem?_map] at h
  cases ea : s[i]? with
  | none => rw [ea] at h; simp at h
  | some m =>
    cases eb : t[i]? with
    | none => rw [ea, eb] at h; simp at h
    | some k =>
      rw [ea, eb] at h
      exact ⟨m, k, rfl, rfl, (Option.some.inj h).symm⟩
theorem rd_joined : ∀ ds M Q, sp_joined ds M Q → w_joined { nx := fun _ M' => Q (.d .none) M', rt := Q } (dstart N_joined ds) M := by
  rintro ds M Q ⟨x, y, s, t, rfl, hx, hy, hs, ht, ls, lt, q⟩
  unfold w_joined
  (repeat (with_reducible (first | refine wSeq ?_ | refine wAsg ?_ | refine wRet ?_ | refine wDrop ?_ | refine wName ?_ | (apply wVar; (case h => with_unfolding_all rfl)) | refine wC ?_ | refine wOp ?_ | refine wUn ?_ | refine wNil ?_ | refine wCons ?_ | refine wCB ?_ | refine wCall ?_ | refine wTest ?_ | refine wBool ?_ | refine wInt ?_ | refine wIfS ?_ | refine wIf ?_ | refine wAnd ?_ | refine wOr ?_ | refine wNot ?_ | refine wAndV ?_ | refine wOrV ?_ | refine wNotV ?_ | refine wTup ?_ | refine wLst ?_ | refine wLstF ?_ | refine wSl ?_ | refine wNoPart ?_ | refine wPart ?_ | refine wBM ?_ | refine wSub ?_ | refine wFor ?_ | refine wIterL ?_ | refine wRng1 ?_ | refine wZip ?_ | refine wLc ?_ | refine wLcF ?_ | refine wYes ?_ | refine wAddI ?_ | refine wIntT ?_ | refine wInt1 ?_ | refine wInt2 ?_ | refine wNext ?_)))
  refine ⟨_, _, rfl, .inr ⟨_, _, hx, hy, ?_⟩⟩
  refine lcW_map ((joinedS s t).map vecV) ?_ ?_ ⟨hx, hy⟩ ?_ ?_
  · simp [zipD, joinedS]
  · exact lenOk (by simp [zipD]; omega)
  · intro i x y hx hy K k
    obtain ⟨a, b, ea, eb, rfl⟩ := zip_sheet hx
    refine wPair (tupOf_mkTup _) ?_
    (repeat (with_reducible (first | refine wSeq ?_ | refine wAsg ?_ | refine wRet ?_ | refine wDrop ?_ | refine wName ?_ | (apply wVar; (case h => with_unfolding_all rfl)) | refine wC ?_ | refine wOp ?_ | refine wUn ?_ | refine wNil ?_ | refine wCons ?_ | refine wCB ?_ | refine wCall ?_ | refine wTest ?_ | refine wBool ?_ | refine wInt ?_ | refine wIfS ?_ | refine wIf ?_ | refine wAnd ?_ | refine wOr ?_ | refine wNot ?_ | refine wAndV ?_ | refine wOrV ?_ | refine wNotV ?_ | refine wTup ?_ | refine wLst ?_ | refine wLstF ?_ | refine wSl ?_ | refine wNoPart ?_ | refine wPart ?_ | refine wBM ?_ | refine wSub ?_ | refine wFor ?_ | refine wIterL ?_ | refine wRng1 ?_ | refine wZip ?_ | refine wLc ?_ | refine wLcF ?_ | refine wYes ?_ | refine wAddI ?_ | refine wIntT ?_ | refine wInt1 ?_ | refine wInt2 ?_ | refine wNext ?_)))
    refine ⟨a, b, rfl, ls a (List.mem_of_getElem? ea), lt b (List.mem_of_getElem? eb), ?_⟩
    have e : y = vecV (joinV a b) := by
      rw [List.getElem?_map, joinedS, List.getElem?_zipWith, ea, eb] at hy
      exact (Option.some.inj hy).symm
    rw [← e]
    exact k
  · exact q
theorem rd__law_join : ∀ ds M Q, sp__law_join ds M Q → w__law_join { nx := fun _ M' => Q (.d .none) M', rt := Q } (dstart N__law_join ds) M := by
  rintro ds M Q ⟨a, b, rfl, ha, hl, q⟩
  unfold w__law_join
  (repeat (with_reducible (first | refine wSeq ?_ | refine wAsg ?_ | refine wRet ?_ | refine wDrop ?_ | refine wName ?_ | (apply wVar; (case h => with_unfolding_all rfl)) | refine wC ?_ | refine wOp ?_ | refine wUn ?_ | refine wNil ?_ | refine wCons ?_ | refine wCB ?_ | refine wCall ?_ | refine wTest ?_ | refine wBool ?_ | refine wInt ?_ | refine wIfS ?_ | refine wIf ?_ | refine wAnd ?_ | refine wOr ?_ | refine wNot ?_ | refine wAndV ?_ | refine wOrV ?_ | refine wNotV ?_ | refine wTup ?_ | refine wLst ?_ | refine wLstF ?_ | refine wSl ?_ | refine wNoPart ?_ | refine wPart ?_ | refine wBM ?_ | refine wSub ?_ | refine wFor ?_ | refine wIterL ?_ | refine wRng1 ?_ | refine wZip ?_ | refine wLc ?_ | refine wLcF ?_ | refine wYes ?_ | refine wAddI ?_ | refine wIntT ?_ | refine wInt1 ?_ | refine wInt2 ?_ | refine wNext ?_)))
  refine wLenL seq_vec ?_
  refine ⟨_, rfl, by omega, by simp; omega, ?_⟩
  have hn : ((a.map fun n : Nat => DV.d (.int n)).length : Int).toNat = a.length := by simp
  rw [hn]
  refine lcW_map ((joinV a b).map fun n : Nat => DV.d (.int n)) ?_ ?_ trivial ?_ ?_
  · simp [rng, joinV]; omega
  · exact lenOk (by simp [rng]; exact ha)
  · intro i x y hx hy K k
    have hi : i < a.length := by
      obtain ⟨h, _⟩ := List.getElem?_eq_some_iff.mp hx
      simpa [rng] using h
    rw [rng_get hi] at hx
    obtain rfl := Option.some.inj hx
    (repeat (with_reducible (first | refine wSeq ?_ | refine wAsg ?_ | refine wRet ?_ | refine wDrop ?_ | refine wName ?_ | (apply wVar; (case h => with_unfolding_all rfl)) | refine wC ?_ | refine wOp ?_ | refine wUn ?_ | refine wNil ?_ | refine wCons ?_ | refine wCB ?_ | refine wCall ?_ | refine wTest ?_ | refine wBool ?_ | refine wInt ?_ | refine wIfS ?_ | refine wIf ?_ | refine wAnd ?_ | refine wOr ?_ | refine wNot ?_ | refine wAndV ?_ | refine wOrV ?_ | refine wNotV ?_ | refine wTup ?_ | refine wLst ?_ | refine wLstF ?_ | refine wSl ?_ | refine wNoPart ?_ | refine wPart ?_ | refine wBM ?_ | refine wSub ?_ | refine wFor ?_ | refine wIterL ?_ | refine wRng1 ?_ | refine wZip ?_ | refine wLc ?_ | refine wLcF ?_ | refine wYes ?_ | refine wAddI ?_ | refine wIntT ?_ | refine wInt1 ?_ | refine wInt2 ?_ | refine wNext ?_)))
    refine wIx i seq_vec (vec_get hi) (by omega) ?_
    (repeat (with_reducible (first | refine wSeq ?_ | refine wAsg ?_ | refine wRet ?_ | refine wDrop ?_ | refine wName ?_ | (apply wVar; (case h => with_unfolding_all rfl)) | refine wC ?_ | refine wOp ?_ | refine wUn ?_ | refine wNil ?_ | refine wCons ?_ | refine wCB ?_ | refine wCall ?_ | refine wTest ?_ | refine wBool ?_ | refine wInt ?_ | refine wIfS ?_ | refine wIf ?_ | refine wAnd ?_ | refine wOr ?_ | refine wNot ?_ | refine wAndV ?_ | refine wOrV ?_ | refine wNotV ?_ | refine wTup ?_ | refine wLst ?_ | refine wLstF ?_ | refine wSl ?_ | refine wNoPart ?_ | refine wPart ?_ | refine wBM ?_ | refine wSub ?_ | refine wFor ?_ | refine wIterL ?_ | refine wRng1 ?_ | refine wZip ?_ | refine wLc ?_ | refine wLcF ?_ | refine wYes ?_ | refine wAddI ?_ | refine wIntT ?_ | refine wInt1 ?_ | refine wInt2 ?_ | refine wNext ?_)))
    refine wIx i seq_vec (vec_get (by omega)) (by omega) ?_
    (repeat (with_reducible (first | refine wSeq ?_ | refine wAsg ?_ | refine wRet ?_ | refine wDrop ?_ | refine wName ?_ | (apply wVar; (case h => with_unfolding_all rfl)) | refine wC ?_ | refine wOp ?_ | refine wUn ?_ | refine wNil ?_ | refine wCons ?_ | refine wCB ?_ | refine wCall ?_ | refine wTest ?_ | refine wBool ?_ | refine wInt ?_ | refine wIfS ?_ | refine wIf ?_ | refine wAnd ?_ | refine wOr ?_ | refine wNot ?_ | refine wAndV ?_ | refine wOrV ?_ | refine wNotV ?_ | refine wTup ?_ | refine wLst ?_ | refine wLstF ?_ | refine wSl ?_ | refine wNoPart ?_ | refine wPart ?_ | refine wBM ?_ | refine wSub ?_ | refine wFor ?_ | refine wIterL ?_ | refine wRng1 ?_ | refine wZip ?_ | refine wLc ?_ | refine wLcF ?_ | refine wYes ?_ | refine wAddI ?_ | refine wIntT ?_ | refine wInt1 ?_ | refine wInt2 ?_ | refine wNext ?_)))
    have e : y = .d (.int (if ((b[i]'(by omega) : Nat) : Int) > ((a[i] : Nat) : Int) then ((b[i]'(by omega) : Nat) : Int) else ((a[i] : Nat) : Int))) := by
      rw [List.getElem?_map, joinV, List.getElem?_zipWith, List.getElem?_eq_getElem hi, List.getElem?_eq_getElem (by omega)] at hy
      rw [← Option.some.inj hy]
      have z : ((max (a[i]) (b[i]'(by omega)) : Nat) : Int) = if ((b[i]'(by omega) : Nat) : Int) > ((a[i] : Nat) : Int) then ((b[i]'(by omega) : Nat) : Int) else ((a[i] : Nat) : Int) := by split <;> omega
      rw [← z]
    rw [← e]
    exact k
  · exact ⟨_, data_vec _, wTupF q⟩
/-! ### the deck -/
theorem deck_ix {M : DM} {a : Addr} {xs : List DV} {Q : DK} {d : DV} {i : Int} (n : Nat) (h : M a = some (.lst xs)) (h2 : xs[n]? = some d) (hi : i = (n : Int)) (q : Q d M) : rIxD (.ref a) (.d (.int i)) M Q := wIx n (seqOf_ref h) h2 hi q
theorem rd__law_deck (K : PySem.W.Frag) : ∀ ds M Q, sp__law_deck K ds M Q → w__law_deck K { nx := fun _ M' => Q (.d .none) M', rt := Q } (dstart N__law_deck ds) M := by
  rintro ds M Q ⟨x, ns, rfl, hx, q⟩
  unfold w__law_deck
  (repeat (with_reducible (first | refine wSeq ?_ | refine wAsg ?_ | refine wRet ?_ | refine wDrop ?_ | refine wName ?_ | (apply wVar; (case h => with_unfolding_all rfl)) | refine wC ?_ | refine wOp ?_ | refine wUn ?_ | refine wNil ?_ | refine wCons ?_ | refine wCB ?_ | refine wCall ?_ | refine wTest ?_ | refine wBool ?_ | refine wInt ?_ | refine wIfS ?_ | refine wIf ?_ | refine wAnd ?_ | refine wOr ?_ | refine wNot ?_ | refine wAndV ?_ | refine wOrV ?_ | refine wNotV ?_ | refine wTup ?_ | refine wLst ?_ | refine wLstF ?_ | refine wSl ?_ | refine wNoPart ?_ | refine wPart ?_ | refine wBM ?_ | refine wSub ?_ | refine wFor ?_ | refine wIterL ?_ | refine wRng1 ?_ | refine wZip ?_ | refine wLc ?_ | refine wLcF ?_ | refine wYes ?_ | refine wAddI ?_ | refine wIntT ?_ | refine wInt1 ?_ | refine wInt2 ?_ | refine wNext ?_)))
  show dIterS K (dVar 0) _ M _
  refine wVar (d := x) (by rfl) ?_
  refine ⟨ns, hx, ?_⟩
  refine forW_inv (fun i ρ M' => M' = M ∧ ∃ s c, ρ = [some x, some (.d (.int s)), c]) ⟨rfl, _, _, rfl⟩ ?_ ?_
  · rintro i y ρ M' hy ⟨rfl, s, c, rfl⟩
    refine ⟨hx, fun K hK => ?_⟩
    rw [List.getElem?_map] at hy
    cases e : ns[i]? with
    | none => rw [e] at hy; simp at hy
    | some z =>
      rw [e] at hy
      obtain rfl := Option.some.inj hy
      (repeat (with_reducible (first | refine wSeq ?_ | refine wAsg ?_ | refine wRet ?_ | refine wDrop ?_ | refine wName ?_ | (apply wVar; (case h => with_unfolding_all rfl)) | refine wC ?_ | refine wOp ?_ | refine wUn ?_ | refine wNil ?_ | refine wCons ?_ | refine wCB ?_ | refine wCall ?_ | refine wTest ?_ | refine wBool ?_ | refine wInt ?_ | refine wIfS ?_ | refine wIf ?_ | refine wAnd ?_ | refine wOr ?_ | refine wNot ?_ | refine wAndV ?_ | refine wOrV ?_ | refine wNotV ?_ | refine wTup ?_ | refine wLst ?_ | refine wLstF ?_ | refine wSl ?_ | refine wNoPart ?_ | refine wPart ?_ | refine wBM ?_ | refine wSub ?_ | refine wFor ?_ | refine wIterL ?_ | refine wRng1 ?_ | refine wZip ?_ | refine wLc ?_ | refine wLcF ?_ | refine wYes ?_ | refine wAddI ?_ | refine wIntT ?_ | refine wInt1 ?_ | refine wInt2 ?_ | refine wNext ?_)))
      refine wMulI (.inr (by decide)) ?_
      (repeat (with_reducible (first | refine wSeq ?_ | refine wAsg ?_ | refine wRet ?_ | refine wDrop ?_ | refine wName ?_ | (apply wVar; (case h => with_unfolding_all rfl)) | refine wC ?_ | refine wOp ?_ | refine wUn ?_ | refine wNil ?_ | refine wCons ?_ | refine wCB ?_ | refine wCall ?_ | refine wTest ?_ | refine wBool ?_ | refine wInt ?_ | refine wIfS ?_ | refine wIf ?_ | refine wAnd ?_ | refine wOr ?_ | refine wNot ?_ | refine wAndV ?_ | refine wOrV ?_ | refine wNotV ?_ | refine wTup ?_ | refine wLst ?_ | refine wLstF ?_ | refine wSl ?_ | refine wNoPart ?_ | refine wPart ?_ | refine wBM ?_ | refine wSub ?_ | refine wFor ?_ | refine wIterL ?_ | refine wRng1 ?_ | refine wZip ?_ | refine wLc ?_ | refine wLcF ?_ | refine wYes ?_ | refine wAddI ?_ | refine wIntT ?_ | refine wInt1 ?_ | refine wInt2 ?_ | refine wNext ?_)))
      refine wIntOp (by decide) ?_
      (repeat (with_reducible (first | refine wSeq ?_ | refine wAsg ?_ | refine wRet ?_ | refine wDrop ?_ | refine wName ?_ | (apply wVar; (case h => with_unfolding_all rfl)) | refine wC ?_ | refine wOp ?_ | refine wUn ?_ | refine wNil ?_ | refine wCons ?_ | refine wCB ?_ | refine wCall ?_ | refine wTest ?_ | refine wBool ?_ | refine wInt ?_ | refine wIfS ?_ | refine wIf ?_ | refine wAnd ?_ | refine wOr ?_ | refine wNot ?_ | refine wAndV ?_ | refine wOrV ?_ | refine wNotV ?_ | refine wTup ?_ | refine wLst ?_ | refine wLstF ?_ | refine wSl ?_ | refine wNoPart ?_ | refine wPart ?_ | refine wBM ?_ | refine wSub ?_ | refine wFor ?_ | refine wIterL ?_ | refine wRng1 ?_ | refine wZip ?_ | refine wLc ?_ | refine wLcF ?_ | refine wYes ?_ | refine wAddI ?_ | refine wIntT ?_ | refine wInt1 ?_ | refine wInt2 ?_ | refine wNext ?_)))
      exact hK _ _ ⟨rfl, _, _, rfl⟩
  · rintro ρ M' ⟨rfl, s, c, rfl⟩
    refine ⟨hx, ?_⟩
    (repeat (with_reducible (first | refine wSeq ?_ | refine wAsg ?_ | refine wRet ?_ | refine wDrop ?_ | refine wName ?_ | (apply wVar; (case h => with_unfolding_all rfl)) | refine wC ?_ | refine wOp ?_ | refine wUn ?_ | refine wNil ?_ | refine wCons ?_ | refine wCB ?_ | refine wCall ?_ | refine wTest ?_ | refine wBool ?_ | refine wInt ?_ | refine wIfS ?_ | refine wIf ?_ | refine wAnd ?_ | refine wOr ?_ | refine wNot ?_ | refine wAndV ?_ | refine wOrV ?_ | refine wNotV ?_ | refine wTup ?_ | refine wLst ?_ | refine wLstF ?_ | refine wSl ?_ | refine wNoPart ?_ | refine wPart ?_ | refine wBM ?_ | refine wSub ?_ | refine wFor ?_ | refine wIterL ?_ | refine wRng1 ?_ | refine wZip ?_ | refine wLc ?_ | refine wLcF ?_ | refine wYes ?_ | refine wAddI ?_ | refine wIntT ?_ | refine wInt1 ?_ | refine wInt2 ?_ | refine wNext ?_)))
    refine ⟨_, _, rfl, hx, ?_⟩
    (repeat (with_reducible (first | refine wSeq ?_ | refine wAsg ?_ | refine wRet ?_ | refine wDrop ?_ | refine wName ?_ | (apply wVar; (case h => with_unfolding_all rfl)) | refine wC ?_ | refine wOp ?_ | refine wUn ?_ | refine wNil ?_ | refine wCons ?_ | refine wCB ?_ | refine wCall ?_ | refine wTest ?_ | refine wBool ?_ | refine wInt ?_ | refine wIfS ?_ | refine wIf ?_ | refine wAnd ?_ | refine wOr ?_ | refine wNot ?_ | refine wAndV ?_ | refine wOrV ?_ | refine wNotV ?_ | refine wTup ?_ | refine wLst ?_ | refine wLstF ?_ | refine wSl ?_ | refine wNoPart ?_ | refine wPart ?_ | refine wBM ?_ | refine wSub ?_ | refine wFor ?_ | refine wIterL ?_ | refine wRng1 ?_ | refine wZip ?_ | refine wLc ?_ | refine wLcF ?_ | refine wYes ?_ | refine wAddI ?_ | refine wIntT ?_ | refine wInt1 ?_ | refine wInt2 ?_ | refine wNext ?_)))
    refine ⟨lenOk (by simp), fun p hp => q p _ hp ?_⟩
    exact ⟨0, s, 0, 0, ns, rfl, by omega⟩
end DL

set_option Elab.async false
set_option linter.all false
set_option maxRecDepth 100000
set_option maxHeartbeats 4000000
namespace DL
open PySem L2 PyProof.Rows
theorem put_self {M : DM} {a : Addr} {o : DO} (h : M a = some o) : put M a o = M := by
  funext b
  by_cases c : b = a
  · rw [c, put_same, h]
  · rw [put_ne c]
def deckL (i : Int) (k : Nat) (s : Int) (xs : List Int) (z : Int) : List DV := [.d (.int i), .d (.int k), .d (.int s), .d (.list (xs.map .int)), .d (.int z)]
theorem rd__law_draw : ∀ ds M Q, sp__law_draw ds M Q → w__law_draw { nx := fun _ M' => Q (.d .none) M', rt := Q } (dstart N__law_draw ds) M := by
  rintro ds M Q ⟨a, b, o, rfl, hb, hb2, ho, ⟨i, s, z, k, xs, rfl, hi⟩, q⟩
  unfold w__law_draw
  refine wMid (fun ρ M' => ∃ (i s z : Int) (k : Nat) (c : Option DV), 0 ≤ i ∧ M' = put M a (.lst (deckL i k s xs z)) ∧ ρ = [some (.ref a), some (.d (.int b)), c, none]) ?_ ?_
  · intro K hK
    have fin : ∀ (i s z : Int) (k : Nat) (c : Option DV), 0 ≤ i → K [some (.ref a), some (.d (.int b)), c, none] (put M a (.lst (deckL i k s xs z))) := fun i s z k c h => hK _ _ ⟨i, s, z, k, c, h, rfl, rfl⟩
    have keep : K (dstart N__law_draw [.ref a, .d (.int b)]) M := by
      have := fin i s z k none hi
      unfold deckL at this
      rw [put_self ho] at this
      exact this
    (repeat (with_reducible (first | refine wSeq ?_ | refine wAsg ?_ | refine wRet ?_ | refine wDrop ?_ | refine wName ?_ | (apply wVar; (case h => with_unfolding_all rfl)) | refine wC ?_ | refine wOp ?_ | refine wUn ?_ | refine wNil ?_ | refine wCons ?_ | refine wCB ?_ | refine wCall ?_ | refine wTest ?_ | refine wBool ?_ | refine wInt ?_ | refine wIfS ?_ | refine wIf ?_ | refine wAnd ?_ | refine wOr ?_ | refine wNot ?_ | refine wAndV ?_ | refine wOrV ?_ | refine wNotV ?_ | refine wTup ?_ | refine wLst ?_ | refine wLstF ?_ | refine wSl ?_ | refine wNoPart ?_ | refine wPart ?_ | refine wBM ?_ | refine wSub ?_ | refine wFor ?_ | refine wIterL ?_ | refine wRng1 ?_ | refine wZip ?_ | refine wLc ?_ | refine wLcF ?_ | refine wYes ?_ | refine wAddI ?_ | refine wIntT ?_ | refine wInt1 ?_ | refine wInt2 ?_ | refine wNext ?_)))
    refine deck_ix 0 ho rfl rfl ?_
    (repeat (with_reducible (first | refine wSeq ?_ | refine wAsg ?_ | refine wRet ?_ | refine wDrop ?_ | refine wName ?_ | (apply wVar; (case h => with_unfolding_all rfl)) | refine wC ?_ | refine wOp ?_ | refine wUn ?_ | refine wNil ?_ | refine wCons ?_ | refine wCB ?_ | refine wCall ?_ | refine wTest ?_ | refine wBool ?_ | refine wInt ?_ | refine wIfS ?_ | refine wIf ?_ | refine wAnd ?_ | refine wOr ?_ | refine wNot ?_ | refine wAndV ?_ | refine wOrV ?_ | refine wNotV ?_ | refine wTup ?_ | refine wLst ?_ | refine wLstF ?_ | refine wSl ?_ | refine wNoPart ?_ | refine wPart ?_ | refine wBM ?_ | refine wSub ?_ | refine wFor ?_ | refine wIterL ?_ | refine wRng1 ?_ | refine wZip ?_ | refine wLc ?_ | refine wLcF ?_ | refine wYes ?_ | refine wAddI ?_ | refine wIntT ?_ | refine wInt1 ?_ | refine wInt2 ?_ | refine wNext ?_)))
    refine wEqI ?_
    (repeat (with_reducible (first | refine wSeq ?_ | refine wAsg ?_ | refine wRet ?_ | refine wDrop ?_ | refine wName ?_ | (apply wVar; (case h => with_unfolding_all rfl)) | refine wC ?_ | refine wOp ?_ | refine wUn ?_ | refine wNil ?_ | refine wCons ?_ | refine wCB ?_ | refine wCall ?_ | refine wTest ?_ | refine wBool ?_ | refine wInt ?_ | refine wIfS ?_ | refine wIf ?_ | refine wAnd ?_ | refine wOr ?_ | refine wNot ?_ | refine wAndV ?_ | refine wOrV ?_ | refine wNotV ?_ | refine wTup ?_ | refine wLst ?_ | refine wLstF ?_ | refine wSl ?_ | refine wNoPart ?_ | refine wPart ?_ | refine wBM ?_ | refine wSub ?_ | refine wFor ?_ | refine wIterL ?_ | refine wRng1 ?_ | refine wZip ?_ | refine wLc ?_ | refine wLcF ?_ | refine wYes ?_ | refine wAddI ?_ | refine wIntT ?_ | refine wInt1 ?_ | refine wInt2 ?_ | refine wNext ?_)))
    by_cases c : i = 0
    · rw [if_pos (by simp [c])]
      (repeat (with_reducible (first | refine wSeq ?_ | refine wAsg ?_ | refine wRet ?_ | refine wDrop ?_ | refine wName ?_ | (apply wVar; (case h => with_unfolding_all rfl)) | refine wC ?_ | refine wOp ?_ | refine wUn ?_ | refine wNil ?_ | refine wCons ?_ | refine wCB ?_ | refine wCall ?_ | refine wTest ?_ | refine wBool ?_ | refine wInt ?_ | refine wIfS ?_ | refine wIf ?_ | refine wAnd ?_ | refine wOr ?_ | refine wNot ?_ | refine wAndV ?_ | refine wOrV ?_ | refine wNotV ?_ | refine wTup ?_ | refine wLst ?_ | refine wLstF ?_ | refine wSl ?_ | refine wNoPart ?_ | refine wPart ?_ | refine wBM ?_ | refine wSub ?_ | refine wFor ?_ | refine wIterL ?_ | refine wRng1 ?_ | refine wZip ?_ | refine wLc ?_ | refine wLcF ?_ | refine wYes ?_ | refine wAddI ?_ | refine wIntT ?_ | refine wInt1 ?_ | refine wInt2 ?_ | refine wNext ?_)))
      refine deck_ix 1 ho rfl rfl ?_
      (repeat (with_reducible (first | refine wSeq ?_ | refine wAsg ?_ | refine wRet ?_ | refine wDrop ?_ | refine wName ?_ | (apply wVar; (case h => with_unfolding_all rfl)) | refine wC ?_ | refine wOp ?_ | refine wUn ?_ | refine wNil ?_ | refine wCons ?_ | refine wCB ?_ | refine wCall ?_ | refine wTest ?_ | refine wBool ?_ | refine wInt ?_ | refine wIfS ?_ | refine wIf ?_ | refine wAnd ?_ | refine wOr ?_ | refine wNot ?_ | refine wAndV ?_ | refine wOrV ?_ | refine wNotV ?_ | refine wTup ?_ | refine wLst ?_ | refine wLstF ?_ | refine wSl ?_ | refine wNoPart ?_ | refine wPart ?_ | refine wBM ?_ | refine wSub ?_ | refine wFor ?_ | refine wIterL ?_ | refine wRng1 ?_ | refine wZip ?_ | refine wLc ?_ | refine wLcF ?_ | refine wYes ?_ | refine wAddI ?_ | refine wIntT ?_ | refine wInt1 ?_ | refine wInt2 ?_ | refine wNext ?_)))
      refine deck_ix 3 ho rfl rfl ?_
      (repeat (with_reducible (first | refine wSeq ?_ | refine wAsg ?_ | refine wRet ?_ | refine wDrop ?_ | refine wName ?_ | (apply wVar; (case h => with_unfolding_all rfl)) | refine wC ?_ | refine wOp ?_ | refine wUn ?_ | refine wNil ?_ | refine wCons ?_ | refine wCB ?_ | refine wCall ?_ | refine wTest ?_ | refine wBool ?_ | refine wInt ?_ | refine wIfS ?_ | refine wIf ?_ | refine wAnd ?_ | refine wOr ?_ | refine wNot ?_ | refine wAndV ?_ | refine wOrV ?_ | refine wNotV ?_ | refine wTup ?_ | refine wLst ?_ | refine wLstF ?_ | refine wSl ?_ | refine wNoPart ?_ | refine wPart ?_ | refine wBM ?_ | refine wSub ?_ | refine wFor ?_ | refine wIterL ?_ | refine wRng1 ?_ | refine wZip ?_ | refine wLc ?_ | refine wLcF ?_ | refine wYes ?_ | refine wAddI ?_ | refine wIntT ?_ | refine wInt1 ?_ | refine wInt2 ?_ | refine wNext ?_)))
      refine wLenL seqOf_list ?_
      (repeat (with_reducible (first | refine wSeq ?_ | refine wAsg ?_ | refine wRet ?_ | refine wDrop ?_ | refine wName ?_ | (apply wVar; (case h => with_unfolding_all rfl)) | refine wC ?_ | refine wOp ?_ | refine wUn ?_ | refine wNil ?_ | refine wCons ?_ | refine wCB ?_ | refine wCall ?_ | refine wTest ?_ | refine wBool ?_ | refine wInt ?_ | refine wIfS ?_ | refine wIf ?_ | refine wAnd ?_ | refine wOr ?_ | refine wNot ?_ | refine wAndV ?_ | refine wOrV ?_ | refine wNotV ?_ | refine wTup ?_ | refine wLst ?_ | refine wLstF ?_ | refine wSl ?_ | refine wNoPart ?_ | refine wPart ?_ | refine wBM ?_ | refine wSub ?_ | refine wFor ?_ | refine wIterL ?_ | refine wRng1 ?_ | refine wZip ?_ | refine wLc ?_ | refine wLcF ?_ | refine wYes ?_ | refine wAddI ?_ | refine wIntT ?_ | refine wInt1 ?_ | refine wInt2 ?_ | refine wNext ?_)))
      by_cases c2 : (k : Int) < ((xs.map PyData.int).map DV.d).length
      · rw [if_pos (by simpa using c2)]
        have hk : k < xs.length := by simpa using c2
        (repeat (with_reducible (first | refine wSeq ?_ | refine wAsg ?_ | refine wRet ?_ | refine wDrop ?_ | refine wName ?_ | (apply wVar; (case h => with_unfolding_all rfl)) | refine wC ?_ | refine wOp ?_ | refine wUn ?_ | refine wNil ?_ | refine wCons ?_ | refine wCB ?_ | refine wCall ?_ | refine wTest ?_ | refine wBool ?_ | refine wInt ?_ | refine wIfS ?_ | refine wIf ?_ | refine wAnd ?_ | refine wOr ?_ | refine wNot ?_ | refine wAndV ?_ | refine wOrV ?_ | refine wNotV ?_ | refine wTup ?_ | refine wLst ?_ | refine wLstF ?_ | refine wSl ?_ | refine wNoPart ?_ | refine wPart ?_ | refine wBM ?_ | refine wSub ?_ | refine wFor ?_ | refine wIterL ?_ | refine wRng1 ?_ | refine wZip ?_ | refine wLc ?_ | refine wLcF ?_ | refine wYes ?_ | refine wAddI ?_ | refine wIntT ?_ | refine wInt1 ?_ | refine wInt2 ?_ | refine wNext ?_)))
        refine deck_ix 3 ho rfl rfl ?_
        (repeat (with_reducible (first | refine wSeq ?_ | refine wAsg ?_ | refine wRet ?_ | refine wDrop ?_ | refine wName ?_ | (apply wVar; (case h => with_unfolding_all rfl)) | refine wC ?_ | refine wOp ?_ | refine wUn ?_ | refine wNil ?_ | refine wCons ?_ | refine wCB ?_ | refine wCall ?_ | refine wTest ?_ | refine wBool ?_ | refine wInt ?_ | refine wIfS ?_ | refine wIf ?_ | refine wAnd ?_ | refine wOr ?_ | refine wNot ?_ | refine wAndV ?_ | refine wOrV ?_ | refine wNotV ?_ | refine wTup ?_ | refine wLst ?_ | refine wLstF ?_ | refine wSl ?_ | refine wNoPart ?_ | refine wPart ?_ | refine wBM ?_ | refine wSub ?_ | refine wFor ?_ | refine wIterL ?_ | refine wRng1 ?_ | refine wZip ?_ | refine wLc ?_ | refine wLcF ?_ | refine wYes ?_ | refine wAddI ?_ | refine wIntT ?_ | refine wInt1 ?_ | refine wInt2 ?_ | refine wNext ?_)))
        refine deck_ix 1 ho rfl rfl ?_
        (repeat (with_reducible (first | refine wSeq ?_ | refine wAsg ?_ | refine wRet ?_ | refine wDrop ?_ | refine wName ?_ | (apply wVar; (case h => with_unfolding_all rfl)) | refine wC ?_ | refine wOp ?_ | refine wUn ?_ | refine wNil ?_ | refine wCons ?_ | refine wCB ?_ | refine wCall ?_ | refine wTest ?_ | refine wBool ?_ | refine wInt ?_ | refine wIfS ?_ | refine wIf ?_ | refine wAnd ?_ | refine wOr ?_ | refine wNot ?_ | refine wAndV ?_ | refine wOrV ?_ | refine wNotV ?_ | refine wTup ?_ | refine wLst ?_ | refine wLstF ?_ | refine wSl ?_ | refine wNoPart ?_ | refine wPart ?_ | refine wBM ?_ | refine wSub ?_ | refine wFor ?_ | refine wIterL ?_ | refine wRng1 ?_ | refine wZip ?_ | refine wLc ?_ | refine wLcF ?_ | refine wYes ?_ | refine wAddI ?_ | refine wIntT ?_ | refine wInt1 ?_ | refine wInt2 ?_ | refine wNext ?_)))
        refine wIx k seqOf_list (d := .d (.int xs[k])) (by simp [hk]) rfl ?_
        (repeat (with_reducible (first | refine wSeq ?_ | refine wAsg ?_ | refine wRet ?_ | refine wDrop ?_ | refine wName ?_ | (apply wVar; (case h => with_unfolding_all rfl)) | refine wC ?_ | refine wOp ?_ | refine wUn ?_ | refine wNil ?_ | refine wCons ?_ | refine wCB ?_ | refine wCall ?_ | refine wTest ?_ | refine wBool ?_ | refine wInt ?_ | refine wIfS ?_ | refine wIf ?_ | refine wAnd ?_ | refine wOr ?_ | refine wNot ?_ | refine wAndV ?_ | refine wOrV ?_ | refine wNotV ?_ | refine wTup ?_ | refine wLst ?_ | refine wLstF ?_ | refine wSl ?_ | refine wNoPart ?_ | refine wPart ?_ | refine wBM ?_ | refine wSub ?_ | refine wFor ?_ | refine wIterL ?_ | refine wRng1 ?_ | refine wZip ?_ | refine wLc ?_ | refine wLcF ?_ | refine wYes ?_ | refine wAddI ?_ | refine wIntT ?_ | refine wInt1 ?_ | refine wInt2 ?_ | refine wNext ?_)))
        refine ⟨_, rfl, ?_⟩
        (repeat (with_reducible (first | refine wSeq ?_ | refine wAsg ?_ | refine wRet ?_ | refine wDrop ?_ | refine wName ?_ | (apply wVar; (case h => with_unfolding_all rfl)) | refine wC ?_ | refine wOp ?_ | refine wUn ?_ | refine wNil ?_ | refine wCons ?_ | refine wCB ?_ | refine wCall ?_ | refine wTest ?_ | refine wBool ?_ | refine wInt ?_ | refine wIfS ?_ | refine wIf ?_ | refine wAnd ?_ | refine wOr ?_ | refine wNot ?_ | refine wAndV ?_ | refine wOrV ?_ | refine wNotV ?_ | refine wTup ?_ | refine wLst ?_ | refine wLstF ?_ | refine wSl ?_ | refine wNoPart ?_ | refine wPart ?_ | refine wBM ?_ | refine wSub ?_ | refine wFor ?_ | refine wIterL ?_ | refine wRng1 ?_ | refine wZip ?_ | refine wLc ?_ | refine wLcF ?_ | refine wYes ?_ | refine wAddI ?_ | refine wIntT ?_ | refine wInt1 ?_ | refine wInt2 ?_ | refine wNext ?_)))
        refine wSetL 0 rfl ho (by simp) rfl ?_
        (repeat (with_reducible (first | refine wSeq ?_ | refine wAsg ?_ | refine wRet ?_ | refine wDrop ?_ | refine wName ?_ | (apply wVar; (case h => with_unfolding_all rfl)) | refine wC ?_ | refine wOp ?_ | refine wUn ?_ | refine wNil ?_ | refine wCons ?_ | refine wCB ?_ | refine wCall ?_ | refine wTest ?_ | refine wBool ?_ | refine wInt ?_ | refine wIfS ?_ | refine wIf ?_ | refine wAnd ?_ | refine wOr ?_ | refine wNot ?_ | refine wAndV ?_ | refine wOrV ?_ | refine wNotV ?_ | refine wTup ?_ | refine wLst ?_ | refine wLstF ?_ | refine wSl ?_ | refine wNoPart ?_ | refine wPart ?_ | refine wBM ?_ | refine wSub ?_ | refine wFor ?_ | refine wIterL ?_ | refine wRng1 ?_ | refine wZip ?_ | refine wLc ?_ | refine wLcF ?_ | refine wYes ?_ | refine wAddI ?_ | refine wIntT ?_ | refine wInt1 ?_ | refine wInt2 ?_ | refine wNext ?_)))
        refine deck_ix 1 put_same rfl rfl ?_
        (repeat (with_reducible (first | refine wSeq ?_ | refine wAsg ?_ | refine wRet ?_ | refine wDrop ?_ | refine wName ?_ | (apply wVar; (case h => with_unfolding_all rfl)) | refine wC ?_ | refine wOp ?_ | refine wUn ?_ | refine wNil ?_ | refine wCons ?_ | refine wCB ?_ | refine wCall ?_ | refine wTest ?_ | refine wBool ?_ | refine wInt ?_ | refine wIfS ?_ | refine wIf ?_ | refine wAnd ?_ | refine wOr ?_ | refine wNot ?_ | refine wAndV ?_ | refine wOrV ?_ | refine wNotV ?_ | refine wTup ?_ | refine wLst ?_ | refine wLstF ?_ | refine wSl ?_ | refine wNoPart ?_ | refine wPart ?_ | refine wBM ?_ | refine wSub ?_ | refine wFor ?_ | refine wIterL ?_ | refine wRng1 ?_ | refine wZip ?_ | refine wLc ?_ | refine wLcF ?_ | refine wYes ?_ | refine wAddI ?_ | refine wIntT ?_ | refine wInt1 ?_ | refine wInt2 ?_ | refine wNext ?_)))
        refine wSetL 1 rfl put_same (by simp) rfl ?_
        rw [put_put]
        exact fin _ s z (k + 1) none (by split <;> omega)
      · rw [if_neg (by simpa using c2)]
        (repeat (with_reducible (first | refine wSeq ?_ | refine wAsg ?_ | refine wRet ?_ | refine wDrop ?_ | refine wName ?_ | (apply wVar; (case h => with_unfolding_all rfl)) | refine wC ?_ | refine wOp ?_ | refine wUn ?_ | refine wNil ?_ | refine wCons ?_ | refine wCB ?_ | refine wCall ?_ | refine wTest ?_ | refine wBool ?_ | refine wInt ?_ | refine wIfS ?_ | refine wIf ?_ | refine wAnd ?_ | refine wOr ?_ | refine wNot ?_ | refine wAndV ?_ | refine wOrV ?_ | refine wNotV ?_ | refine wTup ?_ | refine wLst ?_ | refine wLstF ?_ | refine wSl ?_ | refine wNoPart ?_ | refine wPart ?_ | refine wBM ?_ | refine wSub ?_ | refine wFor ?_ | refine wIterL ?_ | refine wRng1 ?_ | refine wZip ?_ | refine wLc ?_ | refine wLcF ?_ | refine wYes ?_ | refine wAddI ?_ | refine wIntT ?_ | refine wInt1 ?_ | refine wInt2 ?_ | refine wNext ?_)))
        refine deck_ix 0 ho rfl rfl ?_
        (repeat (with_reducible (first | refine wSeq ?_ | refine wAsg ?_ | refine wRet ?_ | refine wDrop ?_ | refine wName ?_ | (apply wVar; (case h => with_unfolding_all rfl)) | refine wC ?_ | refine wOp ?_ | refine wUn ?_ | refine wNil ?_ | refine wCons ?_ | refine wCB ?_ | refine wCall ?_ | refine wTest ?_ | refine wBool ?_ | refine wInt ?_ | refine wIfS ?_ | refine wIf ?_ | refine wAnd ?_ | refine wOr ?_ | refine wNot ?_ | refine wAndV ?_ | refine wOrV ?_ | refine wNotV ?_ | refine wTup ?_ | refine wLst ?_ | refine wLstF ?_ | refine wSl ?_ | refine wNoPart ?_ | refine wPart ?_ | refine wBM ?_ | refine wSub ?_ | refine wFor ?_ | refine wIterL ?_ | refine wRng1 ?_ | refine wZip ?_ | refine wLc ?_ | refine wLcF ?_ | refine wYes ?_ | refine wAddI ?_ | refine wIntT ?_ | refine wInt1 ?_ | refine wInt2 ?_ | refine wNext ?_)))
        refine wEqI ?_
        (repeat (with_reducible (first | refine wSeq ?_ | refine wAsg ?_ | refine wRet ?_ | refine wDrop ?_ | refine wName ?_ | (apply wVar; (case h => with_unfolding_all rfl)) | refine wC ?_ | refine wOp ?_ | refine wUn ?_ | refine wNil ?_ | refine wCons ?_ | refine wCB ?_ | refine wCall ?_ | refine wTest ?_ | refine wBool ?_ | refine wInt ?_ | refine wIfS ?_ | refine wIf ?_ | refine wAnd ?_ | refine wOr ?_ | refine wNot ?_ | refine wAndV ?_ | refine wOrV ?_ | refine wNotV ?_ | refine wTup ?_ | refine wLst ?_ | refine wLstF ?_ | refine wSl ?_ | refine wNoPart ?_ | refine wPart ?_ | refine wBM ?_ | refine wSub ?_ | refine wFor ?_ | refine wIterL ?_ | refine wRng1 ?_ | refine wZip ?_ | refine wLc ?_ | refine wLcF ?_ | refine wYes ?_ | refine wAddI ?_ | refine wIntT ?_ | refine wInt1 ?_ | refine wInt2 ?_ | refine wNext ?_)))
        rw [if_pos (by simp [c])]
        (repeat (with_reducible (first | refine wSeq ?_ | refine wAsg ?_ | refine wRet ?_ | refine wDrop ?_ | refine wName ?_ | (apply wVar; (case h => with_unfolding_all rfl)) | refine wC ?_ | refine wOp ?_ | refine wUn ?_ | refine wNil ?_ | refine wCons ?_ | refine wCB ?_ | refine wCall ?_ | refine wTest ?_ | refine wBool ?_ | refine wInt ?_ | refine wIfS ?_ | refine wIf ?_ | refine wAnd ?_ | refine wOr ?_ | refine wNot ?_ | refine wAndV ?_ | refine wOrV ?_ | refine wNotV ?_ | refine wTup ?_ | refine wLst ?_ | refine wLstF ?_ | refine wSl ?_ | refine wNoPart ?_ | refine wPart ?_ | refine wBM ?_ | refine wSub ?_ | refine wFor ?_ | refine wIterL ?_ | refine wRng1 ?_ | refine wZip ?_ | refine wLc ?_ | refine wLcF ?_ | refine wYes ?_ | refine wAddI ?_ | refine wIntT ?_ | refine wInt1 ?_ | refine wInt2 ?_ | refine wNext ?_)))
        refine deck_ix 4 ho rfl rfl ?_
        (repeat (with_reducible (first | refine wSeq ?_ | refine wAsg ?_ | refine wRet ?_ | refine wDrop ?_ | refine wName ?_ | (apply wVar; (case h => with_unfolding_all rfl)) | refine wC ?_ | refine wOp ?_ | refine wUn ?_ | refine wNil ?_ | refine wCons ?_ | refine wCB ?_ | refine wCall ?_ | refine wTest ?_ | refine wBool ?_ | refine wInt ?_ | refine wIfS ?_ | refine wIf ?_ | refine wAnd ?_ | refine wOr ?_ | refine wNot ?_ | refine wAndV ?_ | refine wOrV ?_ | refine wNotV ?_ | refine wTup ?_ | refine wLst ?_ | refine wLstF ?_ | refine wSl ?_ | refine wNoPart ?_ | refine wPart ?_ | refine wBM ?_ | refine wSub ?_ | refine wFor ?_ | refine wIterL ?_ | refine wRng1 ?_ | refine wZip ?_ | refine wLc ?_ | refine wLcF ?_ | refine wYes ?_ | refine wAddI ?_ | refine wIntT ?_ | refine wInt1 ?_ | refine wInt2 ?_ | refine wNext ?_)))
        refine wSetL 4 rfl ho (by simp) rfl ?_
        (repeat (with_reducible (first | refine wSeq ?_ | refine wAsg ?_ | refine wRet ?_ | refine wDrop ?_ | refine wName ?_ | (apply wVar; (case h => with_unfolding_all rfl)) | refine wC ?_ | refine wOp ?_ | refine wUn ?_ | refine wNil ?_ | refine wCons ?_ | refine wCB ?_ | refine wCall ?_ | refine wTest ?_ | refine wBool ?_ | refine wInt ?_ | refine wIfS ?_ | refine wIf ?_ | refine wAnd ?_ | refine wOr ?_ | refine wNot ?_ | refine wAndV ?_ | refine wOrV ?_ | refine wNotV ?_ | refine wTup ?_ | refine wLst ?_ | refine wLstF ?_ | refine wSl ?_ | refine wNoPart ?_ | refine wPart ?_ | refine wBM ?_ | refine wSub ?_ | refine wFor ?_ | refine wIterL ?_ | refine wRng1 ?_ | refine wZip ?_ | refine wLc ?_ | refine wLcF ?_ | refine wYes ?_ | refine wAddI ?_ | refine wIntT ?_ | refine wInt1 ?_ | refine wInt2 ?_ | refine wNext ?_)))
        refine deck_ix 2 put_same rfl rfl ?_
        (repeat (with_reducible (first | refine wSeq ?_ | refine wAsg ?_ | refine wRet ?_ | refine wDrop ?_ | refine wName ?_ | (apply wVar; (case h => with_unfolding_all rfl)) | refine wC ?_ | refine wOp ?_ | refine wUn ?_ | refine wNil ?_ | refine wCons ?_ | refine wCB ?_ | refine wCall ?_ | refine wTest ?_ | refine wBool ?_ | refine wInt ?_ | refine wIfS ?_ | refine wIf ?_ | refine wAnd ?_ | refine wOr ?_ | refine wNot ?_ | refine wAndV ?_ | refine wOrV ?_ | refine wNotV ?_ | refine wTup ?_ | refine wLst ?_ | refine wLstF ?_ | refine wSl ?_ | refine wNoPart ?_ | refine wPart ?_ | refine wBM ?_ | refine wSub ?_ | refine wFor ?_ | refine wIterL ?_ | refine wRng1 ?_ | refine wZip ?_ | refine wLc ?_ | refine wLcF ?_ | refine wYes ?_ | refine wAddI ?_ | refine wIntT ?_ | refine wInt1 ?_ | refine wInt2 ?_ | refine wNext ?_)))
        refine wMulI (.inr (by decide)) ?_
        (repeat (with_reducible (first | refine wSeq ?_ | refine wAsg ?_ | refine wRet ?_ | refine wDrop ?_ | refine wName ?_ | (apply wVar; (case h => with_unfolding_all rfl)) | refine wC ?_ | refine wOp ?_ | refine wUn ?_ | refine wNil ?_ | refine wCons ?_ | refine wCB ?_ | refine wCall ?_ | refine wTest ?_ | refine wBool ?_ | refine wInt ?_ | refine wIfS ?_ | refine wIf ?_ | refine wAnd ?_ | refine wOr ?_ | refine wNot ?_ | refine wAndV ?_ | refine wOrV ?_ | refine wNotV ?_ | refine wTup ?_ | refine wLst ?_ | refine wLstF ?_ | refine wSl ?_ | refine wNoPart ?_ | refine wPart ?_ | refine wBM ?_ | refine wSub ?_ | refine wFor ?_ | refine wIterL ?_ | refine wRng1 ?_ | refine wZip ?_ | refine wLc ?_ | refine wLcF ?_ | refine wYes ?_ | refine wAddI ?_ | refine wIntT ?_ | refine wInt1 ?_ | refine wInt2 ?_ | refine wNext ?_)))
        refine deck_ix 4 put_same rfl rfl ?_
        (repeat (with_reducible (first | refine wSeq ?_ | refine wAsg ?_ | refine wRet ?_ | refine wDrop ?_ | refine wName ?_ | (apply wVar; (case h => with_unfolding_all rfl)) | refine wC ?_ | refine wOp ?_ | refine wUn ?_ | refine wNil ?_ | refine wCons ?_ | refine wCB ?_ | refine wCall ?_ | refine wTest ?_ | refine wBool ?_ | refine wInt ?_ | refine wIfS ?_ | refine wIf ?_ | refine wAnd ?_ | refine wOr ?_ | refine wNot ?_ | refine wAndV ?_ | refine wOrV ?_ | refine wNotV ?_ | refine wTup ?_ | refine wLst ?_ | refine wLstF ?_ | refine wSl ?_ | refine wNoPart ?_ | refine wPart ?_ | refine wBM ?_ | refine wSub ?_ | refine wFor ?_ | refine wIterL ?_ | refine wRng1 ?_ | refine wZip ?_ | refine wLc ?_ | refine wLcF ?_ | refine wYes ?_ | refine wAddI ?_ | refine wIntT ?_ | refine wInt1 ?_ | refine wInt2 ?_ | refine wNext ?_)))
        refine wMulI (.inr (by decide)) ?_
        (repeat (with_reducible (first | refine wSeq ?_ | refine wAsg ?_ | refine wRet ?_ | refine wDrop ?_ | refine wName ?_ | (apply wVar; (case h => with_unfolding_all rfl)) | refine wC ?_ | refine wOp ?_ | refine wUn ?_ | refine wNil ?_ | refine wCons ?_ | refine wCB ?_ | refine wCall ?_ | refine wTest ?_ | refine wBool ?_ | refine wInt ?_ | refine wIfS ?_ | refine wIf ?_ | refine wAnd ?_ | refine wOr ?_ | refine wNot ?_ | refine wAndV ?_ | refine wOrV ?_ | refine wNotV ?_ | refine wTup ?_ | refine wLst ?_ | refine wLstF ?_ | refine wSl ?_ | refine wNoPart ?_ | refine wPart ?_ | refine wBM ?_ | refine wSub ?_ | refine wFor ?_ | refine wIterL ?_ | refine wRng1 ?_ | refine wZip ?_ | refine wLc ?_ | refine wLcF ?_ | refine wYes ?_ | refine wAddI ?_ | refine wIntT ?_ | refine wInt1 ?_ | refine wInt2 ?_ | refine wNext ?_)))
        refine wIntOp (by decide) ?_
        (repeat (with_reducible (first | refine wSeq ?_ | refine wAsg ?_ | refine wRet ?_ | refine wDrop ?_ | refine wName ?_ | (apply wVar; (case h => with_unfolding_all rfl)) | refine wC ?_ | refine wOp ?_ | refine wUn ?_ | refine wNil ?_ | refine wCons ?_ | refine wCB ?_ | refine wCall ?_ | refine wTest ?_ | refine wBool ?_ | refine wInt ?_ | refine wIfS ?_ | refine wIf ?_ | refine wAnd ?_ | refine wOr ?_ | refine wNot ?_ | refine wAndV ?_ | refine wOrV ?_ | refine wNotV ?_ | refine wTup ?_ | refine wLst ?_ | refine wLstF ?_ | refine wSl ?_ | refine wNoPart ?_ | refine wPart ?_ | refine wBM ?_ | refine wSub ?_ | refine wFor ?_ | refine wIterL ?_ | refine wRng1 ?_ | refine wZip ?_ | refine wLc ?_ | refine wLcF ?_ | refine wYes ?_ | refine wAddI ?_ | refine wIntT ?_ | refine wInt1 ?_ | refine wInt2 ?_ | refine wNext ?_)))
        have m1 : ∀ x : Int, CMul (x % 2147483647) (x % 2147483647) := fun x => .inl (by have h1 := Int.emod_nonneg x (b := 2147483647) (by decide); have h2 := Int.emod_lt_of_pos x (b := 2147483647) (by decide); omega)
        have m2 : ∀ x : Int, CMul (x % 998244353) (x % 998244353) := fun x => .inl (by have h1 := Int.emod_nonneg x (b := 998244353) (by decide); have h2 := Int.emod_lt_of_pos x (b := 998244353) (by decide); omega)
        refine wMulI (m1 _) ?_
        (repeat (with_reducible (first | refine wSeq ?_ | refine wAsg ?_ | refine wRet ?_ | refine wDrop ?_ | refine wName ?_ | (apply wVar; (case h => with_unfolding_all rfl)) | refine wC ?_ | refine wOp ?_ | refine wUn ?_ | refine wNil ?_ | refine wCons ?_ | refine wCB ?_ | refine wCall ?_ | refine wTest ?_ | refine wBool ?_ | refine wInt ?_ | refine wIfS ?_ | refine wIf ?_ | refine wAnd ?_ | refine wOr ?_ | refine wNot ?_ | refine wAndV ?_ | refine wOrV ?_ | refine wNotV ?_ | refine wTup ?_ | refine wLst ?_ | refine wLstF ?_ | refine wSl ?_ | refine wNoPart ?_ | refine wPart ?_ | refine wBM ?_ | refine wSub ?_ | refine wFor ?_ | refine wIterL ?_ | refine wRng1 ?_ | refine wZip ?_ | refine wLc ?_ | refine wLcF ?_ | refine wYes ?_ | refine wAddI ?_ | refine wIntT ?_ | refine wInt1 ?_ | refine wInt2 ?_ | refine wNext ?_)))
        refine deck_ix 4 put_same rfl rfl ?_
        (repeat (with_reducible (first | refine wSeq ?_ | refine wAsg ?_ | refine wRet ?_ | refine wDrop ?_ | refine wName ?_ | (apply wVar; (case h => with_unfolding_all rfl)) | refine wC ?_ | refine wOp ?_ | refine wUn ?_ | refine wNil ?_ | refine wCons ?_ | refine wCB ?_ | refine wCall ?_ | refine wTest ?_ | refine wBool ?_ | refine wInt ?_ | refine wIfS ?_ | refine wIf ?_ | refine wAnd ?_ | refine wOr ?_ | refine wNot ?_ | refine wAndV ?_ | refine wOrV ?_ | refine wNotV ?_ | refine wTup ?_ | refine wLst ?_ | refine wLstF ?_ | refine wSl ?_ | refine wNoPart ?_ | refine wPart ?_ | refine wBM ?_ | refine wSub ?_ | refine wFor ?_ | refine wIterL ?_ | refine wRng1 ?_ | refine wZip ?_ | refine wLc ?_ | refine wLcF ?_ | refine wYes ?_ | refine wAddI ?_ | refine wIntT ?_ | refine wInt1 ?_ | refine wInt2 ?_ | refine wNext ?_)))
        refine wMulI (.inl (by decide)) ?_
        (repeat (with_reducible (first | refine wSeq ?_ | refine wAsg ?_ | refine wRet ?_ | refine wDrop ?_ | refine wName ?_ | (apply wVar; (case h => with_unfolding_all rfl)) | refine wC ?_ | refine wOp ?_ | refine wUn ?_ | refine wNil ?_ | refine wCons ?_ | refine wCB ?_ | refine wCall ?_ | refine wTest ?_ | refine wBool ?_ | refine wInt ?_ | refine wIfS ?_ | refine wIf ?_ | refine wAnd ?_ | refine wOr ?_ | refine wNot ?_ | refine wAndV ?_ | refine wOrV ?_ | refine wNotV ?_ | refine wTup ?_ | refine wLst ?_ | refine wLstF ?_ | refine wSl ?_ | refine wNoPart ?_ | refine wPart ?_ | refine wBM ?_ | refine wSub ?_ | refine wFor ?_ | refine wIterL ?_ | refine wRng1 ?_ | refine wZip ?_ | refine wLc ?_ | refine wLcF ?_ | refine wYes ?_ | refine wAddI ?_ | refine wIntT ?_ | refine wInt1 ?_ | refine wInt2 ?_ | refine wNext ?_)))
        refine wIntOp (by decide) ?_
        (repeat (with_reducible (first | refine wSeq ?_ | refine wAsg ?_ | refine wRet ?_ | refine wDrop ?_ | refine wName ?_ | (apply wVar; (case h => with_unfolding_all rfl)) | refine wC ?_ | refine wOp ?_ | refine wUn ?_ | refine wNil ?_ | refine wCons ?_ | refine wCB ?_ | refine wCall ?_ | refine wTest ?_ | refine wBool ?_ | refine wInt ?_ | refine wIfS ?_ | refine wIf ?_ | refine wAnd ?_ | refine wOr ?_ | refine wNot ?_ | refine wAndV ?_ | refine wOrV ?_ | refine wNotV ?_ | refine wTup ?_ | refine wLst ?_ | refine wLstF ?_ | refine wSl ?_ | refine wNoPart ?_ | refine wPart ?_ | refine wBM ?_ | refine wSub ?_ | refine wFor ?_ | refine wIterL ?_ | refine wRng1 ?_ | refine wZip ?_ | refine wLc ?_ | refine wLcF ?_ | refine wYes ?_ | refine wAddI ?_ | refine wIntT ?_ | refine wInt1 ?_ | refine wInt2 ?_ | refine wNext ?_)))
        refine wMulI (m2 _) ?_
        (repeat (with_reducible (first | refine wSeq ?_ | refine wAsg ?_ | refine wRet ?_ | refine wDrop ?_ | refine wName ?_ | (apply wVar; (case h => with_unfolding_all rfl)) | refine wC ?_ | refine wOp ?_ | refine wUn ?_ | refine wNil ?_ | refine wCons ?_ | refine wCB ?_ | refine wCall ?_ | refine wTest ?_ | refine wBool ?_ | refine wInt ?_ | refine wIfS ?_ | refine wIf ?_ | refine wAnd ?_ | refine wOr ?_ | refine wNot ?_ | refine wAndV ?_ | refine wOrV ?_ | refine wNotV ?_ | refine wTup ?_ | refine wLst ?_ | refine wLstF ?_ | refine wSl ?_ | refine wNoPart ?_ | refine wPart ?_ | refine wBM ?_ | refine wSub ?_ | refine wFor ?_ | refine wIterL ?_ | refine wRng1 ?_ | refine wZip ?_ | refine wLc ?_ | refine wLcF ?_ | refine wYes ?_ | refine wAddI ?_ | refine wIntT ?_ | refine wInt1 ?_ | refine wInt2 ?_ | refine wNext ?_)))
        refine deck_ix 4 put_same rfl rfl ?_
        (repeat (with_reducible (first | refine wSeq ?_ | refine wAsg ?_ | refine wRet ?_ | refine wDrop ?_ | refine wName ?_ | (apply wVar; (case h => with_unfolding_all rfl)) | refine wC ?_ | refine wOp ?_ | refine wUn ?_ | refine wNil ?_ | refine wCons ?_ | refine wCB ?_ | refine wCall ?_ | refine wTest ?_ | refine wBool ?_ | refine wInt ?_ | refine wIfS ?_ | refine wIf ?_ | refine wAnd ?_ | refine wOr ?_ | refine wNot ?_ | refine wAndV ?_ | refine wOrV ?_ | refine wNotV ?_ | refine wTup ?_ | refine wLst ?_ | refine wLstF ?_ | refine wSl ?_ | refine wNoPart ?_ | refine wPart ?_ | refine wBM ?_ | refine wSub ?_ | refine wFor ?_ | refine wIterL ?_ | refine wRng1 ?_ | refine wZip ?_ | refine wLc ?_ | refine wLcF ?_ | refine wYes ?_ | refine wAddI ?_ | refine wIntT ?_ | refine wInt1 ?_ | refine wInt2 ?_ | refine wNext ?_)))
        refine wMulI (.inl (by decide)) ?_
        (repeat (with_reducible (first | refine wSeq ?_ | refine wAsg ?_ | refine wRet ?_ | refine wDrop ?_ | refine wName ?_ | (apply wVar; (case h => with_unfolding_all rfl)) | refine wC ?_ | refine wOp ?_ | refine wUn ?_ | refine wNil ?_ | refine wCons ?_ | refine wCB ?_ | refine wCall ?_ | refine wTest ?_ | refine wBool ?_ | refine wInt ?_ | refine wIfS ?_ | refine wIf ?_ | refine wAnd ?_ | refine wOr ?_ | refine wNot ?_ | refine wAndV ?_ | refine wOrV ?_ | refine wNotV ?_ | refine wTup ?_ | refine wLst ?_ | refine wLstF ?_ | refine wSl ?_ | refine wNoPart ?_ | refine wPart ?_ | refine wBM ?_ | refine wSub ?_ | refine wFor ?_ | refine wIterL ?_ | refine wRng1 ?_ | refine wZip ?_ | refine wLc ?_ | refine wLcF ?_ | refine wYes ?_ | refine wAddI ?_ | refine wIntT ?_ | refine wInt1 ?_ | refine wInt2 ?_ | refine wNext ?_)))
        refine deck_ix 2 put_same rfl rfl ?_
        (repeat (with_reducible (first | refine wSeq ?_ | refine wAsg ?_ | refine wRet ?_ | refine wDrop ?_ | refine wName ?_ | (apply wVar; (case h => with_unfolding_all rfl)) | refine wC ?_ | refine wOp ?_ | refine wUn ?_ | refine wNil ?_ | refine wCons ?_ | refine wCB ?_ | refine wCall ?_ | refine wTest ?_ | refine wBool ?_ | refine wInt ?_ | refine wIfS ?_ | refine wIf ?_ | refine wAnd ?_ | refine wOr ?_ | refine wNot ?_ | refine wAndV ?_ | refine wOrV ?_ | refine wNotV ?_ | refine wTup ?_ | refine wLst ?_ | refine wLstF ?_ | refine wSl ?_ | refine wNoPart ?_ | refine wPart ?_ | refine wBM ?_ | refine wSub ?_ | refine wFor ?_ | refine wIterL ?_ | refine wRng1 ?_ | refine wZip ?_ | refine wLc ?_ | refine wLcF ?_ | refine wYes ?_ | refine wAddI ?_ | refine wIntT ?_ | refine wInt1 ?_ | refine wInt2 ?_ | refine wNext ?_)))
        refine wIntOp (by decide) ?_
        (repeat (with_reducible (first | refine wSeq ?_ | refine wAsg ?_ | refine wRet ?_ | refine wDrop ?_ | refine wName ?_ | (apply wVar; (case h => with_unfolding_all rfl)) | refine wC ?_ | refine wOp ?_ | refine wUn ?_ | refine wNil ?_ | refine wCons ?_ | refine wCB ?_ | refine wCall ?_ | refine wTest ?_ | refine wBool ?_ | refine wInt ?_ | refine wIfS ?_ | refine wIf ?_ | refine wAnd ?_ | refine wOr ?_ | refine wNot ?_ | refine wAndV ?_ | refine wOrV ?_ | refine wNotV ?_ | refine wTup ?_ | refine wLst ?_ | refine wLstF ?_ | refine wSl ?_ | refine wNoPart ?_ | refine wPart ?_ | refine wBM ?_ | refine wSub ?_ | refine wFor ?_ | refine wIterL ?_ | refine wRng1 ?_ | refine wZip ?_ | refine wLc ?_ | refine wLcF ?_ | refine wYes ?_ | refine wAddI ?_ | refine wIntT ?_ | refine wInt1 ?_ | refine wInt2 ?_ | refine wNext ?_)))
        refine wIntOp ⟨by decide, by decide⟩ ?_
        (repeat (with_reducible (first | refine wSeq ?_ | refine wAsg ?_ | refine wRet ?_ | refine wDrop ?_ | refine wName ?_ | (apply wVar; (case h => with_unfolding_all rfl)) | refine wC ?_ | refine wOp ?_ | refine wUn ?_ | refine wNil ?_ | refine wCons ?_ | refine wCB ?_ | refine wCall ?_ | refine wTest ?_ | refine wBool ?_ | refine wInt ?_ | refine wIfS ?_ | refine wIf ?_ | refine wAnd ?_ | refine wOr ?_ | refine wNot ?_ | refine wAndV ?_ | refine wOrV ?_ | refine wNotV ?_ | refine wTup ?_ | refine wLst ?_ | refine wLstF ?_ | refine wSl ?_ | refine wNoPart ?_ | refine wPart ?_ | refine wBM ?_ | refine wSub ?_ | refine wFor ?_ | refine wIterL ?_ | refine wRng1 ?_ | refine wZip ?_ | refine wLc ?_ | refine wLcF ?_ | refine wYes ?_ | refine wAddI ?_ | refine wIntT ?_ | refine wInt1 ?_ | refine wInt2 ?_ | refine wNext ?_)))
        refine wSetL 0 rfl put_same (by simp) rfl ?_
        rw [put_put]
        exact fin _ s (z + 1) k _ (Int.ediv_nonneg (Int.emod_nonneg _ (by decide)) (by decide))
    · rw [if_neg (by simp [c])]
      show (if false = true then _ else _)
      rw [if_neg Bool.false_ne_true]
      (repeat (with_reducible (first | refine wSeq ?_ | refine wAsg ?_ | refine wRet ?_ | refine wDrop ?_ | refine wName ?_ | (apply wVar; (case h => with_unfolding_all rfl)) | refine wC ?_ | refine wOp ?_ | refine wUn ?_ | refine wNil ?_ | refine wCons ?_ | refine wCB ?_ | refine wCall ?_ | refine wTest ?_ | refine wBool ?_ | refine wInt ?_ | refine wIfS ?_ | refine wIf ?_ | refine wAnd ?_ | refine wOr ?_ | refine wNot ?_ | refine wAndV ?_ | refine wOrV ?_ | refine wNotV ?_ | refine wTup ?_ | refine wLst ?_ | refine wLstF ?_ | refine wSl ?_ | refine wNoPart ?_ | refine wPart ?_ | refine wBM ?_ | refine wSub ?_ | refine wFor ?_ | refine wIterL ?_ | refine wRng1 ?_ | refine wZip ?_ | refine wLc ?_ | refine wLcF ?_ | refine wYes ?_ | refine wAddI ?_ | refine wIntT ?_ | refine wInt1 ?_ | refine wInt2 ?_ | refine wNext ?_)))
      refine deck_ix 0 ho rfl rfl ?_
      (repeat (with_reducible (first | refine wSeq ?_ | refine wAsg ?_ | refine wRet ?_ | refine wDrop ?_ | refine wName ?_ | (apply wVar; (case h => with_unfolding_all rfl)) | refine wC ?_ | refine wOp ?_ | refine wUn ?_ | refine wNil ?_ | refine wCons ?_ | refine wCB ?_ | refine wCall ?_ | refine wTest ?_ | refine wBool ?_ | refine wInt ?_ | refine wIfS ?_ | refine wIf ?_ | refine wAnd ?_ | refine wOr ?_ | refine wNot ?_ | refine wAndV ?_ | refine wOrV ?_ | refine wNotV ?_ | refine wTup ?_ | refine wLst ?_ | refine wLstF ?_ | refine wSl ?_ | refine wNoPart ?_ | refine wPart ?_ | refine wBM ?_ | refine wSub ?_ | refine wFor ?_ | refine wIterL ?_ | refine wRng1 ?_ | refine wZip ?_ | refine wLc ?_ | refine wLcF ?_ | refine wYes ?_ | refine wAddI ?_ | refine wIntT ?_ | refine wInt1 ?_ | refine wInt2 ?_ | refine wNext ?_)))
      refine wEqI ?_
      (repeat (with_reducible (first | refine wSeq ?_ | refine wAsg ?_ | refine wRet ?_ | refine wDrop ?_ | refine wName ?_ | (apply wVar; (case h => with_unfolding_all rfl)) | refine wC ?_ | refine wOp ?_ | refine wUn ?_ | refine wNil ?_ | refine wCons ?_ | refine wCB ?_ | refine wCall ?_ | refine wTest ?_ | refine wBool ?_ | refine wInt ?_ | refine wIfS ?_ | refine wIf ?_ | refine wAnd ?_ | refine wOr ?_ | refine wNot ?_ | refine wAndV ?_ | refine wOrV ?_ | refine wNotV ?_ | refine wTup ?_ | refine wLst ?_ | refine wLstF ?_ | refine wSl ?_ | refine wNoPart ?_ | refine wPart ?_ | refine wBM ?_ | refine wSub ?_ | refine wFor ?_ | refine wIterL ?_ | refine wRng1 ?_ | refine wZip ?_ | refine wLc ?_ | refine wLcF ?_ | refine wYes ?_ | refine wAddI ?_ | refine wIntT ?_ | refine wInt1 ?_ | refine wInt2 ?_ | refine wNext ?_)))
      rw [if_neg (by simp [c])]
      (repeat (with_reducible (first | refine wSeq ?_ | refine wAsg ?_ | refine wRet ?_ | refine wDrop ?_ | refine wName ?_ | (apply wVar; (case h => with_unfolding_all rfl)) | refine wC ?_ | refine wOp ?_ | refine wUn ?_ | refine wNil ?_ | refine wCons ?_ | refine wCB ?_ | refine wCall ?_ | refine wTest ?_ | refine wBool ?_ | refine wInt ?_ | refine wIfS ?_ | refine wIf ?_ | refine wAnd ?_ | refine wOr ?_ | refine wNot ?_ | refine wAndV ?_ | refine wOrV ?_ | refine wNotV ?_ | refine wTup ?_ | refine wLst ?_ | refine wLstF ?_ | refine wSl ?_ | refine wNoPart ?_ | refine wPart ?_ | refine wBM ?_ | refine wSub ?_ | refine wFor ?_ | refine wIterL ?_ | refine wRng1 ?_ | refine wZip ?_ | refine wLc ?_ | refine wLcF ?_ | refine wYes ?_ | refine wAddI ?_ | refine wIntT ?_ | refine wInt1 ?_ | refine wInt2 ?_ | refine wNext ?_)))
      exact keep
  · rintro ρ M' ⟨i, s, z, k, c, hi, rfl, rfl⟩
    (repeat (with_reducible (first | refine wSeq ?_ | refine wAsg ?_ | refine wRet ?_ | refine wDrop ?_ | refine wName ?_ | (apply wVar; (case h => with_unfolding_all rfl)) | refine wC ?_ | refine wOp ?_ | refine wUn ?_ | refine wNil ?_ | refine wCons ?_ | refine wCB ?_ | refine wCall ?_ | refine wTest ?_ | refine wBool ?_ | refine wInt ?_ | refine wIfS ?_ | refine wIf ?_ | refine wAnd ?_ | refine wOr ?_ | refine wNot ?_ | refine wAndV ?_ | refine wOrV ?_ | refine wNotV ?_ | refine wTup ?_ | refine wLst ?_ | refine wLstF ?_ | refine wSl ?_ | refine wNoPart ?_ | refine wPart ?_ | refine wBM ?_ | refine wSub ?_ | refine wFor ?_ | refine wIterL ?_ | refine wRng1 ?_ | refine wZip ?_ | refine wLc ?_ | refine wLcF ?_ | refine wYes ?_ | refine wAddI ?_ | refine wIntT ?_ | refine wInt1 ?_ | refine wInt2 ?_ | refine wNext ?_)))
    refine deck_ix 0 put_same rfl rfl ?_
    (repeat (with_reducible (first | refine wSeq ?_ | refine wAsg ?_ | refine wRet ?_ | refine wDrop ?_ | refine wName ?_ | (apply wVar; (case h => with_unfolding_all rfl)) | refine wC ?_ | refine wOp ?_ | refine wUn ?_ | refine wNil ?_ | refine wCons ?_ | refine wCB ?_ | refine wCall ?_ | refine wTest ?_ | refine wBool ?_ | refine wInt ?_ | refine wIfS ?_ | refine wIf ?_ | refine wAnd ?_ | refine wOr ?_ | refine wNot ?_ | refine wAndV ?_ | refine wOrV ?_ | refine wNotV ?_ | refine wTup ?_ | refine wLst ?_ | refine wLstF ?_ | refine wSl ?_ | refine wNoPart ?_ | refine wPart ?_ | refine wBM ?_ | refine wSub ?_ | refine wFor ?_ | refine wIterL ?_ | refine wRng1 ?_ | refine wZip ?_ | refine wLc ?_ | refine wLcF ?_ | refine wYes ?_ | refine wAddI ?_ | refine wIntT ?_ | refine wInt1 ?_ | refine wInt2 ?_ | refine wNext ?_)))
    refine wIntOp hb ?_
    (repeat (with_reducible (first | refine wSeq ?_ | refine wAsg ?_ | refine wRet ?_ | refine wDrop ?_ | refine wName ?_ | (apply wVar; (case h => with_unfolding_all rfl)) | refine wC ?_ | refine wOp ?_ | refine wUn ?_ | refine wNil ?_ | refine wCons ?_ | refine wCB ?_ | refine wCall ?_ | refine wTest ?_ | refine wBool ?_ | refine wInt ?_ | refine wIfS ?_ | refine wIf ?_ | refine wAnd ?_ | refine wOr ?_ | refine wNot ?_ | refine wAndV ?_ | refine wOrV ?_ | refine wNotV ?_ | refine wTup ?_ | refine wLst ?_ | refine wLstF ?_ | refine wSl ?_ | refine wNoPart ?_ | refine wPart ?_ | refine wBM ?_ | refine wSub ?_ | refine wFor ?_ | refine wIterL ?_ | refine wRng1 ?_ | refine wZip ?_ | refine wLc ?_ | refine wLcF ?_ | refine wYes ?_ | refine wAddI ?_ | refine wIntT ?_ | refine wInt1 ?_ | refine wInt2 ?_ | refine wNext ?_)))
    refine deck_ix 0 put_same rfl rfl ?_
    (repeat (with_reducible (first | refine wSeq ?_ | refine wAsg ?_ | refine wRet ?_ | refine wDrop ?_ | refine wName ?_ | (apply wVar; (case h => with_unfolding_all rfl)) | refine wC ?_ | refine wOp ?_ | refine wUn ?_ | refine wNil ?_ | refine wCons ?_ | refine wCB ?_ | refine wCall ?_ | refine wTest ?_ | refine wBool ?_ | refine wInt ?_ | refine wIfS ?_ | refine wIf ?_ | refine wAnd ?_ | refine wOr ?_ | refine wNot ?_ | refine wAndV ?_ | refine wOrV ?_ | refine wNotV ?_ | refine wTup ?_ | refine wLst ?_ | refine wLstF ?_ | refine wSl ?_ | refine wNoPart ?_ | refine wPart ?_ | refine wBM ?_ | refine wSub ?_ | refine wFor ?_ | refine wIterL ?_ | refine wRng1 ?_ | refine wZip ?_ | refine wLc ?_ | refine wLcF ?_ | refine wYes ?_ | refine wAddI ?_ | refine wIntT ?_ | refine wInt1 ?_ | refine wInt2 ?_ | refine wNext ?_)))
    refine wIntOp ⟨hb, hb2⟩ ?_
    (repeat (with_reducible (first | refine wSeq ?_ | refine wAsg ?_ | refine wRet ?_ | refine wDrop ?_ | refine wName ?_ | (apply wVar; (case h => with_unfolding_all rfl)) | refine wC ?_ | refine wOp ?_ | refine wUn ?_ | refine wNil ?_ | refine wCons ?_ | refine wCB ?_ | refine wCall ?_ | refine wTest ?_ | refine wBool ?_ | refine wInt ?_ | refine wIfS ?_ | refine wIf ?_ | refine wAnd ?_ | refine wOr ?_ | refine wNot ?_ | refine wAndV ?_ | refine wOrV ?_ | refine wNotV ?_ | refine wTup ?_ | refine wLst ?_ | refine wLstF ?_ | refine wSl ?_ | refine wNoPart ?_ | refine wPart ?_ | refine wBM ?_ | refine wSub ?_ | refine wFor ?_ | refine wIterL ?_ | refine wRng1 ?_ | refine wZip ?_ | refine wLc ?_ | refine wLcF ?_ | refine wYes ?_ | refine wAddI ?_ | refine wIntT ?_ | refine wInt1 ?_ | refine wInt2 ?_ | refine wNext ?_)))
    refine wSetL 0 rfl put_same (by simp [deckL]) rfl ?_
    (repeat (with_reducible (first | refine wSeq ?_ | refine wAsg ?_ | refine wRet ?_ | refine wDrop ?_ | refine wName ?_ | (apply wVar; (case h => with_unfolding_all rfl)) | refine wC ?_ | refine wOp ?_ | refine wUn ?_ | refine wNil ?_ | refine wCons ?_ | refine wCB ?_ | refine wCall ?_ | refine wTest ?_ | refine wBool ?_ | refine wInt ?_ | refine wIfS ?_ | refine wIf ?_ | refine wAnd ?_ | refine wOr ?_ | refine wNot ?_ | refine wAndV ?_ | refine wOrV ?_ | refine wNotV ?_ | refine wTup ?_ | refine wLst ?_ | refine wLstF ?_ | refine wSl ?_ | refine wNoPart ?_ | refine wPart ?_ | refine wBM ?_ | refine wSub ?_ | refine wFor ?_ | refine wIterL ?_ | refine wRng1 ?_ | refine wZip ?_ | refine wLc ?_ | refine wLcF ?_ | refine wYes ?_ | refine wAddI ?_ | refine wIntT ?_ | refine wInt1 ?_ | refine wInt2 ?_ | refine wNext ?_)))
    rw [put_put]
    have e : i % b = ((i % b).toNat : Int) := (Int.toNat_of_nonneg (Int.emod_nonneg _ (by omega))).symm
    rw [e]
    refine q (i % b).toNat _ (by rw [← e]; exact Int.emod_lt_of_pos _ hb) ?_
    exact ⟨i / b, s, z, k, xs, rfl, Int.ediv_nonneg hi (by omega)⟩
end DL

set_option Elab.async false
set_option linter.all false
set_option maxRecDepth 100000
set_option maxHeartbeats 4000000
namespace DL
open PySem L2 PyProof.Rows
theorem strOk_make : PyData.strOk ("make" : Str) = true := by decide +kernel
theorem strOk_tell : PyData.strOk ("tell" : Str) = true := by decide +kernel
theorem strOk_meet : PyData.strOk ("meet" : Str) = true := by decide +kernel
theorem sim_make : ¬ (("make" : Str) = "tell") ∧ ¬ (("make" : Str) = "meet") ∧ ¬ (("tell" : Str) = "make") ∧ ¬ (("tell" : Str) = "meet") ∧ ¬ (("meet" : Str) = "make") ∧ ¬ (("meet" : Str) = "tell") := by decide +kernel
theorem rd__law_deeds : ∀ ds M Q, sp__law_deeds ds M Q → w__law_deeds { nx := fun _ M' => Q (.d .none) M', rt := Q } (dstart N__law_deeds ds) M := by
  rintro ds M Q ⟨a, n, c, o, rfl, hn1, hn2, hc, ho, dko, q⟩
  unfold w__law_deeds
  (repeat (with_reducible (first | refine wSeq ?_ | refine wAsg ?_ | refine wRet ?_ | refine wDrop ?_ | refine wName ?_ | (apply wVar; (case h => with_unfolding_all rfl)) | refine wC ?_ | refine wOp ?_ | refine wUn ?_ | refine wNil ?_ | refine wCons ?_ | refine wCB ?_ | refine wCall ?_ | refine wTest ?_ | refine wBool ?_ | refine wInt ?_ | refine wIfS ?_ | refine wIf ?_ | refine wAnd ?_ | refine wOr ?_ | refine wNot ?_ | refine wAndV ?_ | refine wOrV ?_ | refine wNotV ?_ | refine wTup ?_ | refine wLst ?_ | refine wLstF ?_ | refine wSl ?_ | refine wNoPart ?_ | refine wPart ?_ | refine wBM ?_ | refine wSub ?_ | refine wFor ?_ | refine wIterL ?_ | refine wRng1 ?_ | refine wZip ?_ | refine wLc ?_ | refine wLcF ?_ | refine wYes ?_ | refine wAddI ?_ | refine wIntT ?_ | refine wInt1 ?_ | refine wInt2 ?_ | refine wNext ?_)))
  refine ⟨lenOk (by simp), fun p hp => ?_⟩
  (repeat (with_reducible (first | refine wSeq ?_ | refine wAsg ?_ | refine wRet ?_ | refine wDrop ?_ | refine wName ?_ | (apply wVar; (case h => with_unfolding_all rfl)) | refine wC ?_ | refine wOp ?_ | refine wUn ?_ | refine wNil ?_ | refine wCons ?_ | refine wCB ?_ | refine wCall ?_ | refine wTest ?_ | refine wBool ?_ | refine wInt ?_ | refine wIfS ?_ | refine wIf ?_ | refine wAnd ?_ | refine wOr ?_ | refine wNot ?_ | refine wAndV ?_ | refine wOrV ?_ | refine wNotV ?_ | refine wTup ?_ | refine wLst ?_ | refine wLstF ?_ | refine wSl ?_ | refine wNoPart ?_ | refine wPart ?_ | refine wBM ?_ | refine wSub ?_ | refine wFor ?_ | refine wIterL ?_ | refine wRng1 ?_ | refine wZip ?_ | refine wLc ?_ | refine wLcF ?_ | refine wYes ?_ | refine wAddI ?_ | refine wIntT ?_ | refine wInt1 ?_ | refine wInt2 ?_ | refine wNext ?_)))
  have nap : a ≠ p := Ext.ne hp ho
  refine ⟨a, 3, o, rfl, by decide, by decide, by rw [put_ne nap]; exact ho, dko, fun near o1 hnear dk1 => ?_⟩
  (repeat (with_reducible (first | refine wSeq ?_ | refine wAsg ?_ | refine wRet ?_ | refine wDrop ?_ | refine wName ?_ | (apply wVar; (case h => with_unfolding_all rfl)) | refine wC ?_ | refine wOp ?_ | refine wUn ?_ | refine wNil ?_ | refine wCons ?_ | refine wCB ?_ | refine wCall ?_ | refine wTest ?_ | refine wBool ?_ | refine wInt ?_ | refine wIfS ?_ | refine wIf ?_ | refine wAnd ?_ | refine wOr ?_ | refine wNot ?_ | refine wAndV ?_ | refine wOrV ?_ | refine wNotV ?_ | refine wTup ?_ | refine wLst ?_ | refine wLstF ?_ | refine wSl ?_ | refine wNoPart ?_ | refine wPart ?_ | refine wBM ?_ | refine wSub ?_ | refine wFor ?_ | refine wIterL ?_ | refine wRng1 ?_ | refine wZip ?_ | refine wLc ?_ | refine wLcF ?_ | refine wYes ?_ | refine wAddI ?_ | refine wIntT ?_ | refine wInt1 ?_ | refine wInt2 ?_ | refine wNext ?_)))
  refine ⟨_, rfl, by omega, by omega, ?_⟩
  rw [Int.toNat_natCast]
  have swap : ∀ o1 o2 L, put (put (put M a o1) p L) a o2 = put (put M a o2) p L := fun o1 o2 L => by rw [put_comm nap.symm, put_put]
  have getA : ∀ o1 L, put (put M a o1) p L a = some o1 := fun o1 L => by rw [put_ne nap, put_same]
  refine forW_inv (fun i ρ M' => ∃ (acts : List Act) (o' : DO) (x5 x6 x7 x8 : Option DV), acts.length = i ∧ (∀ x ∈ acts, x.ok n) ∧ DeckO o' ∧ M' = put (put M a o') p (.lst (acts.map fun x => DV.d x.data)) ∧
      ρ = [some (.ref a), some (.d (.int n)), some (.d (.int c)), some (.ref p), some (.d (.int near)), x5, x6, x7, x8]) ?_ ?_ ?_
  · refine ⟨[], o1, none, none, none, none, rfl, by simp, dk1, ?_, rfl⟩
    rw [put_comm nap.symm]
    rfl
  · rintro i x ρ M' hx ⟨acts, o', x5, x6, x7, x8, hl, hok, dk, rfl, rfl⟩
    refine ⟨trivial, fun K hK => ?_⟩
    have hi : i < c := by
      obtain ⟨h, _⟩ := List.getElem?_eq_some_iff.mp hx
      simpa [rng] using h
    rw [rng_get hi] at hx
    obtain rfl := Option.some.inj hx
    (repeat (with_reducible (first | refine wSeq ?_ | refine wAsg ?_ | refine wRet ?_ | refine wDrop ?_ | refine wName ?_ | (apply wVar; (case h => with_unfolding_all rfl)) | refine wC ?_ | refine wOp ?_ | refine wUn ?_ | refine wNil ?_ | refine wCons ?_ | refine wCB ?_ | refine wCall ?_ | refine wTest ?_ | refine wBool ?_ | refine wInt ?_ | refine wIfS ?_ | refine wIf ?_ | refine wAnd ?_ | refine wOr ?_ | refine wNot ?_ | refine wAndV ?_ | refine wOrV ?_ | refine wNotV ?_ | refine wTup ?_ | refine wLst ?_ | refine wLstF ?_ | refine wSl ?_ | refine wNoPart ?_ | refine wPart ?_ | refine wBM ?_ | refine wSub ?_ | refine wFor ?_ | refine wIterL ?_ | refine wRng1 ?_ | refine wZip ?_ | refine wLc ?_ | refine wLcF ?_ | refine wYes ?_ | refine wAddI ?_ | refine wIntT ?_ | refine wInt1 ?_ | refine wInt2 ?_ | refine wNext ?_)))
    refine ⟨a, n, o', rfl, by omega, by omega, getA _ _, dk, fun one o2 hone dk2 => ?_⟩
    rw [swap]
    (repeat (with_reducible (first | refine wSeq ?_ | refine wAsg ?_ | refine wRet ?_ | refine wDrop ?_ | refine wName ?_ | (apply wVar; (case h => with_unfolding_all rfl)) | refine wC ?_ | refine wOp ?_ | refine wUn ?_ | refine wNil ?_ | refine wCons ?_ | refine wCB ?_ | refine wCall ?_ | refine wTest ?_ | refine wBool ?_ | refine wInt ?_ | refine wIfS ?_ | refine wIf ?_ | refine wAnd ?_ | refine wOr ?_ | refine wNot ?_ | refine wAndV ?_ | refine wOrV ?_ | refine wNotV ?_ | refine wTup ?_ | refine wLst ?_ | refine wLstF ?_ | refine wSl ?_ | refine wNoPart ?_ | refine wPart ?_ | refine wBM ?_ | refine wSub ?_ | refine wFor ?_ | refine wIterL ?_ | refine wRng1 ?_ | refine wZip ?_ | refine wLc ?_ | refine wLcF ?_ | refine wYes ?_ | refine wAddI ?_ | refine wIntT ?_ | refine wInt1 ?_ | refine wInt2 ?_ | refine wNext ?_)))
    refine ⟨a, n, o2, rfl, by omega, by omega, getA _ _, dk2, fun other o3 hother dk3 => ?_⟩
    rw [swap]
    (repeat (with_reducible (first | refine wAsg ?_ | refine wRet ?_ | refine wDrop ?_ | refine wName ?_ | (apply wVar; (case h => with_unfolding_all rfl)) | refine wC ?_ | refine wOp ?_ | refine wUn ?_ | refine wNil ?_ | refine wCons ?_ | refine wCB ?_ | refine wCall ?_ | refine wTest ?_ | refine wBool ?_ | refine wInt ?_ | refine wIfS ?_ | refine wIf ?_ | refine wAnd ?_ | refine wOr ?_ | refine wNot ?_ | refine wAndV ?_ | refine wOrV ?_ | refine wNotV ?_ | refine wTup ?_ | refine wLst ?_ | refine wLstF ?_ | refine wSl ?_ | refine wNoPart ?_ | refine wPart ?_ | refine wBM ?_ | refine wSub ?_ | refine wFor ?_ | refine wIterL ?_ | refine wRng1 ?_ | refine wZip ?_ | refine wLc ?_ | refine wLcF ?_ | refine wYes ?_ | refine wAddI ?_ | refine wIntT ?_ | refine wInt1 ?_ | refine wInt2 ?_ | refine wNext ?_)))
    have h1 : one < n := by omega
    with_reducible refine wMid (fun ρ M' => ∃ other' : Nat, other' < n ∧ M' = put (put M a o3) p (.lst (acts.map fun x => DV.d x.data)) ∧
      ρ = [some (.ref a), some (.d (.int n)), some (.d (.int c)), some (.ref p), some (.d (.int near)), some (.d (.int (0 + (i : Nat)))), some (.d (.int one)), some (.d (.int other')), x8]) ?_ ?_
    · intro K1 hK1
      (repeat (with_reducible (first | refine wSeq ?_ | refine wAsg ?_ | refine wRet ?_ | refine wDrop ?_ | refine wName ?_ | (apply wVar; (case h => with_unfolding_all rfl)) | refine wC ?_ | refine wOp ?_ | refine wUn ?_ | refine wNil ?_ | refine wCons ?_ | refine wCB ?_ | refine wCall ?_ | refine wTest ?_ | refine wBool ?_ | refine wInt ?_ | refine wIfS ?_ | refine wIf ?_ | refine wAnd ?_ | refine wOr ?_ | refine wNot ?_ | refine wAndV ?_ | refine wOrV ?_ | refine wNotV ?_ | refine wTup ?_ | refine wLst ?_ | refine wLstF ?_ | refine wSl ?_ | refine wNoPart ?_ | refine wPart ?_ | refine wBM ?_ | refine wSub ?_ | refine wFor ?_ | refine wIterL ?_ | refine wRng1 ?_ | refine wZip ?_ | refine wLc ?_ | refine wLcF ?_ | refine wYes ?_ | refine wAddI ?_ | refine wIntT ?_ | refine wInt1 ?_ | refine wInt2 ?_ | refine wNext ?_)))
      refine wEqI ?_
      (repeat (with_reducible (first | refine wSeq ?_ | refine wAsg ?_ | refine wRet ?_ | refine wDrop ?_ | refine wName ?_ | (apply wVar; (case h => with_unfolding_all rfl)) | refine wC ?_ | refine wOp ?_ | refine wUn ?_ | refine wNil ?_ | refine wCons ?_ | refine wCB ?_ | refine wCall ?_ | refine wTest ?_ | refine wBool ?_ | refine wInt ?_ | refine wIfS ?_ | refine wIf ?_ | refine wAnd ?_ | refine wOr ?_ | refine wNot ?_ | refine wAndV ?_ | refine wOrV ?_ | refine wNotV ?_ | refine wTup ?_ | refine wLst ?_ | refine wLstF ?_ | refine wSl ?_ | refine wNoPart ?_ | refine wPart ?_ | refine wBM ?_ | refine wSub ?_ | refine wFor ?_ | refine wIterL ?_ | refine wRng1 ?_ | refine wZip ?_ | refine wLc ?_ | refine wLcF ?_ | refine wYes ?_ | refine wAddI ?_ | refine wIntT ?_ | refine wInt1 ?_ | refine wInt2 ?_ | refine wNext ?_)))
      split
      · (repeat (with_reducible (first | refine wSeq ?_ | refine wAsg ?_ | refine wRet ?_ | refine wDrop ?_ | refine wName ?_ | (apply wVar; (case h => with_unfolding_all rfl)) | refine wC ?_ | refine wOp ?_ | refine wUn ?_ | refine wNil ?_ | refine wCons ?_ | refine wCB ?_ | refine wCall ?_ | refine wTest ?_ | refine wBool ?_ | refine wInt ?_ | refine wIfS ?_ | refine wIf ?_ | refine wAnd ?_ | refine wOr ?_ | refine wNot ?_ | refine wAndV ?_ | refine wOrV ?_ | refine wNotV ?_ | refine wTup ?_ | refine wLst ?_ | refine wLstF ?_ | refine wSl ?_ | refine wNoPart ?_ | refine wPart ?_ | refine wBM ?_ | refine wSub ?_ | refine wFor ?_ | refine wIterL ?_ | refine wRng1 ?_ | refine wZip ?_ | refine wLc ?_ | refine wLcF ?_ | refine wYes ?_ | refine wAddI ?_ | refine wIntT ?_ | refine wInt1 ?_ | refine wInt2 ?_ | refine wNext ?_)))
        refine wIntOp (by omega) ?_
        (repeat (with_reducible (first | refine wSeq ?_ | refine wAsg ?_ | refine wRet ?_ | refine wDrop ?_ | refine wName ?_ | (apply wVar; (case h => with_unfolding_all rfl)) | refine wC ?_ | refine wOp ?_ | refine wUn ?_ | refine wNil ?_ | refine wCons ?_ | refine wCB ?_ | refine wCall ?_ | refine wTest ?_ | refine wBool ?_ | refine wInt ?_ | refine wIfS ?_ | refine wIf ?_ | refine wAnd ?_ | refine wOr ?_ | refine wNot ?_ | refine wAndV ?_ | refine wOrV ?_ | refine wNotV ?_ | refine wTup ?_ | refine wLst ?_ | refine wLstF ?_ | refine wSl ?_ | refine wNoPart ?_ | refine wPart ?_ | refine wBM ?_ | refine wSub ?_ | refine wFor ?_ | refine wIterL ?_ | refine wRng1 ?_ | refine wZip ?_ | refine wLc ?_ | refine wLcF ?_ | refine wYes ?_ | refine wAddI ?_ | refine wIntT ?_ | refine wInt1 ?_ | refine wInt2 ?_ | refine wNext ?_)))
        have e : ((one : Int) + 1) % (n : Int) = (((one + 1) % n : Nat) : Int) := by rw [Int.natCast_emod]; rfl
        rw [e]
        exact hK1 _ _ ⟨_, Nat.mod_lt _ (by omega), rfl, rfl⟩
      · (repeat (with_reducible (first | refine wSeq ?_ | refine wAsg ?_ | refine wRet ?_ | refine wDrop ?_ | refine wName ?_ | (apply wVar; (case h => with_unfolding_all rfl)) | refine wC ?_ | refine wOp ?_ | refine wUn ?_ | refine wNil ?_ | refine wCons ?_ | refine wCB ?_ | refine wCall ?_ | refine wTest ?_ | refine wBool ?_ | refine wInt ?_ | refine wIfS ?_ | refine wIf ?_ | refine wAnd ?_ | refine wOr ?_ | refine wNot ?_ | refine wAndV ?_ | refine wOrV ?_ | refine wNotV ?_ | refine wTup ?_ | refine wLst ?_ | refine wLstF ?_ | refine wSl ?_ | refine wNoPart ?_ | refine wPart ?_ | refine wBM ?_ | refine wSub ?_ | refine wFor ?_ | refine wIterL ?_ | refine wRng1 ?_ | refine wZip ?_ | refine wLc ?_ | refine wLcF ?_ | refine wYes ?_ | refine wAddI ?_ | refine wIntT ?_ | refine wInt1 ?_ | refine wInt2 ?_ | refine wNext ?_)))
        exact hK1 _ _ ⟨other, by omega, rfl, rfl⟩
    · rintro ρ M' ⟨other', ho', rfl, rfl⟩
      (repeat (with_reducible (first | refine wSeq ?_ | refine wAsg ?_ | refine wRet ?_ | refine wDrop ?_ | refine wName ?_ | (apply wVar; (case h => with_unfolding_all rfl)) | refine wC ?_ | refine wOp ?_ | refine wUn ?_ | refine wNil ?_ | refine wCons ?_ | refine wCB ?_ | refine wCall ?_ | refine wTest ?_ | refine wBool ?_ | refine wInt ?_ | refine wIfS ?_ | refine wIf ?_ | refine wAnd ?_ | refine wOr ?_ | refine wNot ?_ | refine wAndV ?_ | refine wOrV ?_ | refine wNotV ?_ | refine wTup ?_ | refine wLst ?_ | refine wLstF ?_ | refine wSl ?_ | refine wNoPart ?_ | refine wPart ?_ | refine wBM ?_ | refine wSub ?_ | refine wFor ?_ | refine wIterL ?_ | refine wRng1 ?_ | refine wZip ?_ | refine wLc ?_ | refine wLcF ?_ | refine wYes ?_ | refine wAddI ?_ | refine wIntT ?_ | refine wInt1 ?_ | refine wInt2 ?_ | refine wNext ?_)))
      refine ⟨a, 6, o3, rfl, by decide, by decide, getA _ _, dk3, fun kind o4 hkind dk4 => ?_⟩
      rw [swap]
      (repeat (with_reducible (first | refine wSeq ?_ | refine wAsg ?_ | refine wRet ?_ | refine wDrop ?_ | refine wName ?_ | (apply wVar; (case h => with_unfolding_all rfl)) | refine wC ?_ | refine wOp ?_ | refine wUn ?_ | refine wNil ?_ | refine wCons ?_ | refine wCB ?_ | refine wCall ?_ | refine wTest ?_ | refine wBool ?_ | refine wInt ?_ | refine wIfS ?_ | refine wIf ?_ | refine wAnd ?_ | refine wOr ?_ | refine wNot ?_ | refine wAndV ?_ | refine wOrV ?_ | refine wNotV ?_ | refine wTup ?_ | refine wLst ?_ | refine wLstF ?_ | refine wSl ?_ | refine wNoPart ?_ | refine wPart ?_ | refine wBM ?_ | refine wSub ?_ | refine wFor ?_ | refine wIterL ?_ | refine wRng1 ?_ | refine wZip ?_ | refine wLc ?_ | refine wLcF ?_ | refine wYes ?_ | refine wAddI ?_ | refine wIntT ?_ | refine wInt1 ?_ | refine wInt2 ?_ | refine wNext ?_)))
      refine wEqI ?_
      (repeat (with_reducible (first | refine wSeq ?_ | refine wAsg ?_ | refine wRet ?_ | refine wDrop ?_ | refine wName ?_ | (apply wVar; (case h => with_unfolding_all rfl)) | refine wC ?_ | refine wOp ?_ | refine wUn ?_ | refine wNil ?_ | refine wCons ?_ | refine wCB ?_ | refine wCall ?_ | refine wTest ?_ | refine wBool ?_ | refine wInt ?_ | refine wIfS ?_ | refine wIf ?_ | refine wAnd ?_ | refine wOr ?_ | refine wNot ?_ | refine wAndV ?_ | refine wOrV ?_ | refine wNotV ?_ | refine wTup ?_ | refine wLst ?_ | refine wLstF ?_ | refine wSl ?_ | refine wNoPart ?_ | refine wPart ?_ | refine wBM ?_ | refine wSub ?_ | refine wFor ?_ | refine wIterL ?_ | refine wRng1 ?_ | refine wZip ?_ | refine wLc ?_ | refine wLcF ?_ | refine wYes ?_ | refine wAddI ?_ | refine wIntT ?_ | refine wInt1 ?_ | refine wInt2 ?_ | refine wNext ?_)))
      have add : ∀ act : Act, act.ok n → K [some (.ref a), some (.d (.int n)), some (.d (.int c)), some (.ref p), some (.d (.int near)), some (.d (.int (0 + (i : Nat)))), some (.d (.int one)), some (.d (.int other')), some (.d (.int kind))]
          (put (put (put M a o4) p (.lst (acts.map fun x => DV.d x.data))) p (.lst ((acts.map fun x => DV.d x.data) ++ [.d act.data]))) := fun act ok => by
        refine hK _ _ ⟨acts ++ [act], o4, _, _, _, _, by simp [hl], ?_, dk4, ?_, rfl⟩
        · intro y hy
          rcases List.mem_append.mp hy with h | h
          · exact hok y h
          · simp at h; rw [h]; exact ok
        · rw [put_put, List.map_append]; rfl
      have zl : (acts.map fun x => DV.d x.data).length < sizeLine := by
        have : 1000 ≤ sizeLine := by decide
        simp
        omega
      have mk : ∀ K2 : DM → Prop, K2 (put (put M a o4) p (.lst (acts.map fun x => DV.d x.data))) → K2 (put (put M a o4) p (.lst (acts.map fun x => DV.d x.data))) := fun _ h => h
      have goA : (dDrop (dBM isLst rAppendD (dVar 3) (dCons (dTup (dCons (dC (.str "make")) (dCons (dVar 6) dNil))) dNil))) { nx := K, rt := Q, bk := (fun _ _ => False), ct := K } [some (.ref a), some (.d (.int n)), some (.d (.int c)), some (.ref p), some (.d (.int near)), some (.d (.int (0 + (i : Nat)))), some (.d (.int one)), some (.d (.int other')), some (.d (.int kind))] (put (put M a o4) p (.lst (acts.map fun x => DV.d x.data))) := by
        (repeat (with_reducible (first | refine wSeq ?_ | refine wAsg ?_ | refine wRet ?_ | refine wDrop ?_ | refine wName ?_ | (apply wVar; (case h => with_unfolding_all rfl)) | refine wC ?_ | refine wOp ?_ | refine wUn ?_ | refine wNil ?_ | refine wCons ?_ | refine wCB ?_ | refine wCall ?_ | refine wTest ?_ | refine wBool ?_ | refine wInt ?_ | refine wIfS ?_ | refine wIf ?_ | refine wAnd ?_ | refine wOr ?_ | refine wNot ?_ | refine wAndV ?_ | refine wOrV ?_ | refine wNotV ?_ | refine wTup ?_ | refine wLst ?_ | refine wLstF ?_ | refine wSl ?_ | refine wNoPart ?_ | refine wPart ?_ | refine wBM ?_ | refine wSub ?_ | refine wFor ?_ | refine wIterL ?_ | refine wRng1 ?_ | refine wZip ?_ | refine wLc ?_ | refine wLcF ?_ | refine wYes ?_ | refine wAddI ?_ | refine wIntT ?_ | refine wInt1 ?_ | refine wInt2 ?_ | refine wNext ?_)))
        refine ⟨isLst_ref put_same, ?_⟩
        (repeat (with_reducible (first | refine wSeq ?_ | refine wAsg ?_ | refine wRet ?_ | refine wDrop ?_ | refine wName ?_ | (apply wVar; (case h => with_unfolding_all rfl)) | refine wC ?_ | refine wOp ?_ | refine wUn ?_ | refine wNil ?_ | refine wCons ?_ | refine wCB ?_ | refine wCall ?_ | refine wTest ?_ | refine wBool ?_ | refine wInt ?_ | refine wIfS ?_ | refine wIf ?_ | refine wAnd ?_ | refine wOr ?_ | refine wNot ?_ | refine wAndV ?_ | refine wOrV ?_ | refine wNotV ?_ | refine wTup ?_ | refine wLst ?_ | refine wLstF ?_ | refine wSl ?_ | refine wNoPart ?_ | refine wPart ?_ | refine wBM ?_ | refine wSub ?_ | refine wFor ?_ | refine wIterL ?_ | refine wRng1 ?_ | refine wZip ?_ | refine wLc ?_ | refine wLcF ?_ | refine wYes ?_ | refine wAddI ?_ | refine wIntT ?_ | refine wInt1 ?_ | refine wInt2 ?_ | refine wNext ?_)))
        refine ⟨lenOk (by simp), ?_⟩
        (repeat (with_reducible (first | refine wSeq ?_ | refine wAsg ?_ | refine wRet ?_ | refine wDrop ?_ | refine wName ?_ | (apply wVar; (case h => with_unfolding_all rfl)) | refine wC ?_ | refine wOp ?_ | refine wUn ?_ | refine wNil ?_ | refine wCons ?_ | refine wCB ?_ | refine wCall ?_ | refine wTest ?_ | refine wBool ?_ | refine wInt ?_ | refine wIfS ?_ | refine wIf ?_ | refine wAnd ?_ | refine wOr ?_ | refine wNot ?_ | refine wAndV ?_ | refine wOrV ?_ | refine wNotV ?_ | refine wTup ?_ | refine wLst ?_ | refine wLstF ?_ | refine wSl ?_ | refine wNoPart ?_ | refine wPart ?_ | refine wBM ?_ | refine wSub ?_ | refine wFor ?_ | refine wIterL ?_ | refine wRng1 ?_ | refine wZip ?_ | refine wLc ?_ | refine wLcF ?_ | refine wYes ?_ | refine wAddI ?_ | refine wIntT ?_ | refine wInt1 ?_ | refine wInt2 ?_ | refine wNext ?_)))
        refine wAppend rfl put_same zl ?_
        exact add (.make one) h1
      have goB : one ≠ other' → (dDrop (dBM isLst rAppendD (dVar 3) (dCons (dTup (dCons (dOp rIxD (dLstF (dCons (dC (.str "tell")) (dCons (dC (.str "meet")) dNil))) (dOp (rIntD (fun _ j => 0 < j) fun i j => .int (i % j)) (dCB rInt1 (dCons (dVar 8) dNil)) (dC (.int 2)))) (dCons (dVar 6) (dCons (dVar 7) dNil)))) dNil)))
          { nx := K, rt := Q, bk := (fun _ _ => False), ct := K } [some (.ref a), some (.d (.int n)), some (.d (.int c)), some (.ref p), some (.d (.int near)), some (.d (.int (0 + (i : Nat)))), some (.d (.int one)), some (.d (.int other')), some (.d (.int kind))] (put (put M a o4) p (.lst (acts.map fun x => DV.d x.data))) := by
        intro ne
        (repeat (with_reducible (first | refine wSeq ?_ | refine wAsg ?_ | refine wRet ?_ | refine wDrop ?_ | refine wName ?_ | (apply wVar; (case h => with_unfolding_all rfl)) | refine wC ?_ | refine wOp ?_ | refine wUn ?_ | refine wNil ?_ | refine wCons ?_ | refine wCB ?_ | refine wCall ?_ | refine wTest ?_ | refine wBool ?_ | refine wInt ?_ | refine wIfS ?_ | refine wIf ?_ | refine wAnd ?_ | refine wOr ?_ | refine wNot ?_ | refine wAndV ?_ | refine wOrV ?_ | refine wNotV ?_ | refine wTup ?_ | refine wLst ?_ | refine wLstF ?_ | refine wSl ?_ | refine wNoPart ?_ | refine wPart ?_ | refine wBM ?_ | refine wSub ?_ | refine wFor ?_ | refine wIterL ?_ | refine wRng1 ?_ | refine wZip ?_ | refine wLc ?_ | refine wLcF ?_ | refine wYes ?_ | refine wAddI ?_ | refine wIntT ?_ | refine wInt1 ?_ | refine wInt2 ?_ | refine wNext ?_)))
        refine ⟨isLst_ref put_same, ?_⟩
        (repeat (with_reducible (first | refine wSeq ?_ | refine wAsg ?_ | refine wRet ?_ | refine wDrop ?_ | refine wName ?_ | (apply wVar; (case h => with_unfolding_all rfl)) | refine wC ?_ | refine wOp ?_ | refine wUn ?_ | refine wNil ?_ | refine wCons ?_ | refine wCB ?_ | refine wCall ?_ | refine wTest ?_ | refine wBool ?_ | refine wInt ?_ | refine wIfS ?_ | refine wIf ?_ | refine wAnd ?_ | refine wOr ?_ | refine wNot ?_ | refine wAndV ?_ | refine wOrV ?_ | refine wNotV ?_ | refine wTup ?_ | refine wLst ?_ | refine wLstF ?_ | refine wSl ?_ | refine wNoPart ?_ | refine wPart ?_ | refine wBM ?_ | refine wSub ?_ | refine wFor ?_ | refine wIterL ?_ | refine wRng1 ?_ | refine wZip ?_ | refine wLc ?_ | refine wLcF ?_ | refine wYes ?_ | refine wAddI ?_ | refine wIntT ?_ | refine wInt1 ?_ | refine wInt2 ?_ | refine wNext ?_)))
        refine ⟨lenOk (by simp), _, rfl, ?_⟩
        (repeat (with_reducible (first | refine wSeq ?_ | refine wAsg ?_ | refine wRet ?_ | refine wDrop ?_ | refine wName ?_ | (apply wVar; (case h => with_unfolding_all rfl)) | refine wC ?_ | refine wOp ?_ | refine wUn ?_ | refine wNil ?_ | refine wCons ?_ | refine wCB ?_ | refine wCall ?_ | refine wTest ?_ | refine wBool ?_ | refine wInt ?_ | refine wIfS ?_ | refine wIf ?_ | refine wAnd ?_ | refine wOr ?_ | refine wNot ?_ | refine wAndV ?_ | refine wOrV ?_ | refine wNotV ?_ | refine wTup ?_ | refine wLst ?_ | refine wLstF ?_ | refine wSl ?_ | refine wNoPart ?_ | refine wPart ?_ | refine wBM ?_ | refine wSub ?_ | refine wFor ?_ | refine wIterL ?_ | refine wRng1 ?_ | refine wZip ?_ | refine wLc ?_ | refine wLcF ?_ | refine wYes ?_ | refine wAddI ?_ | refine wIntT ?_ | refine wInt1 ?_ | refine wInt2 ?_ | refine wNext ?_)))
        refine wIntOp (by decide) ?_
        rcases Nat.mod_two_eq_zero_or_one kind with hm | hm
        · refine wIx 0 (d := .d (.str "tell")) seqOf_list rfl (by omega) ?_
          (repeat (with_reducible (first | refine wSeq ?_ | refine wAsg ?_ | refine wRet ?_ | refine wDrop ?_ | refine wName ?_ | (apply wVar; (case h => with_unfolding_all rfl)) | refine wC ?_ | refine wOp ?_ | refine wUn ?_ | refine wNil ?_ | refine wCons ?_ | refine wCB ?_ | refine wCall ?_ | refine wTest ?_ | refine wBool ?_ | refine wInt ?_ | refine wIfS ?_ | refine wIf ?_ | refine wAnd ?_ | refine wOr ?_ | refine wNot ?_ | refine wAndV ?_ | refine wOrV ?_ | refine wNotV ?_ | refine wTup ?_ | refine wLst ?_ | refine wLstF ?_ | refine wSl ?_ | refine wNoPart ?_ | refine wPart ?_ | refine wBM ?_ | refine wSub ?_ | refine wFor ?_ | refine wIterL ?_ | refine wRng1 ?_ | refine wZip ?_ | refine wLc ?_ | refine wLcF ?_ | refine wYes ?_ | refine wAddI ?_ | refine wIntT ?_ | refine wInt1 ?_ | refine wInt2 ?_ | refine wNext ?_)))
          refine ⟨lenOk (by simp), ?_⟩
          (repeat (with_reducible (first | refine wSeq ?_ | refine wAsg ?_ | refine wRet ?_ | refine wDrop ?_ | refine wName ?_ | (apply wVar; (case h => with_unfolding_all rfl)) | refine wC ?_ | refine wOp ?_ | refine wUn ?_ | refine wNil ?_ | refine wCons ?_ | refine wCB ?_ | refine wCall ?_ | refine wTest ?_ | refine wBool ?_ | refine wInt ?_ | refine wIfS ?_ | refine wIf ?_ | refine wAnd ?_ | refine wOr ?_ | refine wNot ?_ | refine wAndV ?_ | refine wOrV ?_ | refine wNotV ?_ | refine wTup ?_ | refine wLst ?_ | refine wLstF ?_ | refine wSl ?_ | refine wNoPart ?_ | refine wPart ?_ | refine wBM ?_ | refine wSub ?_ | refine wFor ?_ | refine wIterL ?_ | refine wRng1 ?_ | refine wZip ?_ | refine wLc ?_ | refine wLcF ?_ | refine wYes ?_ | refine wAddI ?_ | refine wIntT ?_ | refine wInt1 ?_ | refine wInt2 ?_ | refine wNext ?_)))
          refine wAppend rfl put_same zl ?_
          exact add (.tell one other') ⟨h1, ho', ne⟩
        · refine wIx 1 (d := .d (.str "meet")) seqOf_list rfl (by omega) ?_
          (repeat (with_reducible (first | refine wSeq ?_ | refine wAsg ?_ | refine wRet ?_ | refine wDrop ?_ | refine wName ?_ | (apply wVar; (case h => with_unfolding_all rfl)) | refine wC ?_ | refine wOp ?_ | refine wUn ?_ | refine wNil ?_ | refine wCons ?_ | refine wCB ?_ | refine wCall ?_ | refine wTest ?_ | refine wBool ?_ | refine wInt ?_ | refine wIfS ?_ | refine wIf ?_ | refine wAnd ?_ | refine wOr ?_ | refine wNot ?_ | refine wAndV ?_ | refine wOrV ?_ | refine wNotV ?_ | refine wTup ?_ | refine wLst ?_ | refine wLstF ?_ | refine wSl ?_ | refine wNoPart ?_ | refine wPart ?_ | refine wBM ?_ | refine wSub ?_ | refine wFor ?_ | refine wIterL ?_ | refine wRng1 ?_ | refine wZip ?_ | refine wLc ?_ | refine wLcF ?_ | refine wYes ?_ | refine wAddI ?_ | refine wIntT ?_ | refine wInt1 ?_ | refine wInt2 ?_ | refine wNext ?_)))
          refine ⟨lenOk (by simp), ?_⟩
          (repeat (with_reducible (first | refine wSeq ?_ | refine wAsg ?_ | refine wRet ?_ | refine wDrop ?_ | refine wName ?_ | (apply wVar; (case h => with_unfolding_all rfl)) | refine wC ?_ | refine wOp ?_ | refine wUn ?_ | refine wNil ?_ | refine wCons ?_ | refine wCB ?_ | refine wCall ?_ | refine wTest ?_ | refine wBool ?_ | refine wInt ?_ | refine wIfS ?_ | refine wIf ?_ | refine wAnd ?_ | refine wOr ?_ | refine wNot ?_ | refine wAndV ?_ | refine wOrV ?_ | refine wNotV ?_ | refine wTup ?_ | refine wLst ?_ | refine wLstF ?_ | refine wSl ?_ | refine wNoPart ?_ | refine wPart ?_ | refine wBM ?_ | refine wSub ?_ | refine wFor ?_ | refine wIterL ?_ | refine wRng1 ?_ | refine wZip ?_ | refine wLc ?_ | refine wLcF ?_ | refine wYes ?_ | refine wAddI ?_ | refine wIntT ?_ | refine wInt1 ?_ | refine wInt2 ?_ | refine wNext ?_)))
          refine wAppend rfl put_same zl ?_
          exact add (.meet one other') ⟨h1, ho', ne⟩
      by_cases c1 : kind = 0
      · rw [if_pos (by simp [c1])]
        exact goA
      · rw [if_neg (by simp; omega)]
        (repeat (with_reducible (first | refine wSeq ?_ | refine wAsg ?_ | refine wRet ?_ | refine wDrop ?_ | refine wName ?_ | (apply wVar; (case h => with_unfolding_all rfl)) | refine wC ?_ | refine wOp ?_ | refine wUn ?_ | refine wNil ?_ | refine wCons ?_ | refine wCB ?_ | refine wCall ?_ | refine wTest ?_ | refine wBool ?_ | refine wInt ?_ | refine wIfS ?_ | refine wIf ?_ | refine wAnd ?_ | refine wOr ?_ | refine wNot ?_ | refine wAndV ?_ | refine wOrV ?_ | refine wNotV ?_ | refine wTup ?_ | refine wLst ?_ | refine wLstF ?_ | refine wSl ?_ | refine wNoPart ?_ | refine wPart ?_ | refine wBM ?_ | refine wSub ?_ | refine wFor ?_ | refine wIterL ?_ | refine wRng1 ?_ | refine wZip ?_ | refine wLc ?_ | refine wLcF ?_ | refine wYes ?_ | refine wAddI ?_ | refine wIntT ?_ | refine wInt1 ?_ | refine wInt2 ?_ | refine wNext ?_)))
        refine wEqI ?_
        (repeat (with_reducible (first | refine wSeq ?_ | refine wAsg ?_ | refine wRet ?_ | refine wDrop ?_ | refine wName ?_ | (apply wVar; (case h => with_unfolding_all rfl)) | refine wC ?_ | refine wOp ?_ | refine wUn ?_ | refine wNil ?_ | refine wCons ?_ | refine wCB ?_ | refine wCall ?_ | refine wTest ?_ | refine wBool ?_ | refine wInt ?_ | refine wIfS ?_ | refine wIf ?_ | refine wAnd ?_ | refine wOr ?_ | refine wNot ?_ | refine wAndV ?_ | refine wOrV ?_ | refine wNotV ?_ | refine wTup ?_ | refine wLst ?_ | refine wLstF ?_ | refine wSl ?_ | refine wNoPart ?_ | refine wPart ?_ | refine wBM ?_ | refine wSub ?_ | refine wFor ?_ | refine wIterL ?_ | refine wRng1 ?_ | refine wZip ?_ | refine wLc ?_ | refine wLcF ?_ | refine wYes ?_ | refine wAddI ?_ | refine wIntT ?_ | refine wInt1 ?_ | refine wInt2 ?_ | refine wNext ?_)))
        by_cases c2 : one = other'
        · rw [if_pos (by simp [c2])]
          exact goA
        · rw [if_neg (by simp; omega)]
          exact goB c2
  · rintro ρ M' ⟨acts, o', x5, x6, x7, x8, hl, hok, dk, rfl, rfl⟩
    refine ⟨trivial, ?_⟩
    with_reducible refine wGhost ?_
    refine ⟨p, acts.map Act.data, rfl, ?_, ?_⟩
    · rw [put_same, List.map_map]; rfl
    (repeat (with_reducible (first | refine wSeq ?_ | refine wAsg ?_ | refine wRet ?_ | refine wDrop ?_ | refine wName ?_ | (apply wVar; (case h => with_unfolding_all rfl)) | refine wC ?_ | refine wOp ?_ | refine wUn ?_ | refine wNil ?_ | refine wCons ?_ | refine wCB ?_ | refine wCall ?_ | refine wTest ?_ | refine wBool ?_ | refine wInt ?_ | refine wIfS ?_ | refine wIf ?_ | refine wAnd ?_ | refine wOr ?_ | refine wNot ?_ | refine wAndV ?_ | refine wOrV ?_ | refine wNotV ?_ | refine wTup ?_ | refine wLst ?_ | refine wLstF ?_ | refine wSl ?_ | refine wNoPart ?_ | refine wPart ?_ | refine wBM ?_ | refine wSub ?_ | refine wFor ?_ | refine wIterL ?_ | refine wRng1 ?_ | refine wZip ?_ | refine wLc ?_ | refine wLcF ?_ | refine wYes ?_ | refine wAddI ?_ | refine wIntT ?_ | refine wInt1 ?_ | refine wInt2 ?_ | refine wNext ?_)))
    rw [del_put (by rw [put_ne nap.symm]; exact hp)]
    refine q acts o' (by rw [hl]; simp [rng]) hok dk
end DL

set_option Elab.async false
set_option linter.all false
set_option maxRecDepth 100000
set_option maxHeartbeats 4000000
namespace DL
open PySem L2 PyProof.Rows
theorem wLock {t : TDE} {ρ : DSt} {M : DM} {Q : DK} {a : Addr} {kd : List (NestedKey × DV)} (h : M a = some (.dN kd)) (q : t ρ (put M a (.roN kd)) fun d M' => M' a = some (.roN kd) ∧ Q d (put M' a (.dN kd))) : dLockE t ρ M Q := ⟨a, kd, h, q⟩
theorem wKeys {td : TDE} {ρ : DSt} {M : DM} {Q : List DV → (DM → Prop) → DM → Prop} (h : td ρ M fun x M1 => ∃ a kd, x = .ref a ∧ M1 a = some (.roN kd) ∧ Q (kd.map fun y => DV.d y.1.data) (fun M' => M' a = some (.roN kd)) M1) : dKeysN td ρ M Q := h
def keyV (x : Nat × Nat) : DV := .d (.tuple [.int x.1, .int x.2])
theorem keys_knD (s : Kn) : (knD s).map (fun y => DV.d y.1.data) = s.map keyV := by
  unfold knD
  rw [List.map_map]
  refine List.map_congr_left fun x _ => ?_
  simp [keyN, keyV, NestedKey.data, NestedKey.datas]
theorem data_keys (s : Kn) : dataL (s.map keyV) = some (s.map fun x => PyData.tuple [.int x.1, .int x.2]) := by
  have e : s.map keyV = (s.map fun x => PyData.tuple [.int x.1, .int x.2]).map DV.d := by rw [List.map_map]; rfl
  rw [e, dataL_map]
theorem rd__law_vector : ∀ ds M Q, sp__law_vector ds M Q → w__law_vector { nx := fun _ M' => Q (.d .none) M', rt := Q } (dstart N__law_vector ds) M := by
  rintro ds M Q ⟨n, a, s, rfl, hn, ha, hs, q⟩
  unfold w__law_vector
  (repeat (with_reducible (first | refine wSeq ?_ | refine wAsg ?_ | refine wRet ?_ | refine wDrop ?_ | refine wName ?_ | (apply wVar; (case h => with_unfolding_all rfl)) | refine wC ?_ | refine wOp ?_ | refine wUn ?_ | refine wNil ?_ | refine wCons ?_ | refine wCB ?_ | refine wCall ?_ | refine wTest ?_ | refine wBool ?_ | refine wInt ?_ | refine wIfS ?_ | refine wIf ?_ | refine wAnd ?_ | refine wOr ?_ | refine wNot ?_ | refine wAndV ?_ | refine wOrV ?_ | refine wNotV ?_ | refine wTup ?_ | refine wLst ?_ | refine wLstF ?_ | refine wSl ?_ | refine wNoPart ?_ | refine wPart ?_ | refine wBM ?_ | refine wSub ?_ | refine wFor ?_ | refine wIterL ?_ | refine wRng1 ?_ | refine wZip ?_ | refine wLc ?_ | refine wLcF ?_ | refine wYes ?_ | refine wAddI ?_ | refine wIntT ?_ | refine wInt1 ?_ | refine wInt2 ?_ | refine wNext ?_)))
  refine ⟨_, rfl, by omega, by omega, ?_⟩
  rw [Int.toNat_natCast]
  refine lcW_map ((cntK s n).map fun n : Nat => DV.d (.int n)) ?_ ?_ trivial ?_ ?_
  · simp [rng, cntK]
  · exact lenOk (by simp [rng]; omega)
  · intro i x y hx hy K k
    have hi : i < n := by
      obtain ⟨h, _⟩ := List.getElem?_eq_some_iff.mp hx
      simpa [rng] using h
    rw [rng_get hi] at hx
    obtain rfl := Option.some.inj hx
    (repeat (with_reducible (first | refine wSeq ?_ | refine wAsg ?_ | refine wRet ?_ | refine wDrop ?_ | refine wName ?_ | (apply wVar; (case h => with_unfolding_all rfl)) | refine wC ?_ | refine wOp ?_ | refine wUn ?_ | refine wNil ?_ | refine wCons ?_ | refine wCB ?_ | refine wCall ?_ | refine wTest ?_ | refine wBool ?_ | refine wInt ?_ | refine wIfS ?_ | refine wIf ?_ | refine wAnd ?_ | refine wOr ?_ | refine wNot ?_ | refine wAndV ?_ | refine wOrV ?_ | refine wNotV ?_ | refine wTup ?_ | refine wLst ?_ | refine wLstF ?_ | refine wSl ?_ | refine wNoPart ?_ | refine wPart ?_ | refine wBM ?_ | refine wSub ?_ | refine wFor ?_ | refine wIterL ?_ | refine wRng1 ?_ | refine wZip ?_ | refine wLc ?_ | refine wLcF ?_ | refine wYes ?_ | refine wAddI ?_ | refine wIntT ?_ | refine wInt1 ?_ | refine wInt2 ?_ | refine wNext ?_)))
    with_reducible refine wLock ha ?_
    (repeat (with_reducible (first | refine wSeq ?_ | refine wAsg ?_ | refine wRet ?_ | refine wDrop ?_ | refine wName ?_ | (apply wVar; (case h => with_unfolding_all rfl)) | refine wC ?_ | refine wOp ?_ | refine wUn ?_ | refine wNil ?_ | refine wCons ?_ | refine wCB ?_ | refine wCall ?_ | refine wTest ?_ | refine wBool ?_ | refine wInt ?_ | refine wIfS ?_ | refine wIf ?_ | refine wAnd ?_ | refine wOr ?_ | refine wNot ?_ | refine wAndV ?_ | refine wOrV ?_ | refine wNotV ?_ | refine wTup ?_ | refine wLst ?_ | refine wLstF ?_ | refine wSl ?_ | refine wNoPart ?_ | refine wPart ?_ | refine wBM ?_ | refine wSub ?_ | refine wFor ?_ | refine wIterL ?_ | refine wRng1 ?_ | refine wZip ?_ | refine wLc ?_ | refine wLcF ?_ | refine wYes ?_ | refine wAddI ?_ | refine wIntT ?_ | refine wInt1 ?_ | refine wInt2 ?_ | refine wNext ?_)))
    with_reducible refine wKeys ?_
    (repeat (with_reducible (first | refine wSeq ?_ | refine wAsg ?_ | refine wRet ?_ | refine wDrop ?_ | refine wName ?_ | (apply wVar; (case h => with_unfolding_all rfl)) | refine wC ?_ | refine wOp ?_ | refine wUn ?_ | refine wNil ?_ | refine wCons ?_ | refine wCB ?_ | refine wCall ?_ | refine wTest ?_ | refine wBool ?_ | refine wInt ?_ | refine wIfS ?_ | refine wIf ?_ | refine wAnd ?_ | refine wOr ?_ | refine wNot ?_ | refine wAndV ?_ | refine wOrV ?_ | refine wNotV ?_ | refine wTup ?_ | refine wLst ?_ | refine wLstF ?_ | refine wSl ?_ | refine wNoPart ?_ | refine wPart ?_ | refine wBM ?_ | refine wSub ?_ | refine wFor ?_ | refine wIterL ?_ | refine wRng1 ?_ | refine wZip ?_ | refine wLc ?_ | refine wLcF ?_ | refine wYes ?_ | refine wAddI ?_ | refine wIntT ?_ | refine wInt1 ?_ | refine wInt2 ?_ | refine wNext ?_)))
    refine ⟨a, knD s, rfl, put_same, ?_⟩
    rw [keys_knD]
    refine lcW_filter (fun x => match x with
      | .d (.tuple (.int c :: _)) => decide (c = 0 + (i : Nat))
      | _ => false) ?_ put_same ?_ ?_
    · have : 10000 ≤ sizeLine := by decide
      simp
      omega
    · intro x hx K1 K2 h1 h2
      obtain ⟨z, hz, rfl⟩ := List.mem_map.mp hx
      (repeat (with_reducible (first | refine wSeq ?_ | refine wAsg ?_ | refine wRet ?_ | refine wDrop ?_ | refine wName ?_ | (apply wVar; (case h => with_unfolding_all rfl)) | refine wC ?_ | refine wOp ?_ | refine wUn ?_ | refine wNil ?_ | refine wCons ?_ | refine wCB ?_ | refine wCall ?_ | refine wTest ?_ | refine wBool ?_ | refine wInt ?_ | refine wIfS ?_ | refine wIf ?_ | refine wAnd ?_ | refine wOr ?_ | refine wNot ?_ | refine wAndV ?_ | refine wOrV ?_ | refine wNotV ?_ | refine wTup ?_ | refine wLst ?_ | refine wLstF ?_ | refine wSl ?_ | refine wNoPart ?_ | refine wPart ?_ | refine wBM ?_ | refine wSub ?_ | refine wFor ?_ | refine wIterL ?_ | refine wRng1 ?_ | refine wZip ?_ | refine wLc ?_ | refine wLcF ?_ | refine wYes ?_ | refine wAddI ?_ | refine wIntT ?_ | refine wInt1 ?_ | refine wInt2 ?_ | refine wNext ?_)))
      refine wIx 0 (d := .d (.int z.1)) seqOf_tup rfl rfl ?_
      (repeat (with_reducible (first | refine wSeq ?_ | refine wAsg ?_ | refine wRet ?_ | refine wDrop ?_ | refine wName ?_ | (apply wVar; (case h => with_unfolding_all rfl)) | refine wC ?_ | refine wOp ?_ | refine wUn ?_ | refine wNil ?_ | refine wCons ?_ | refine wCB ?_ | refine wCall ?_ | refine wTest ?_ | refine wBool ?_ | refine wInt ?_ | refine wIfS ?_ | refine wIf ?_ | refine wAnd ?_ | refine wOr ?_ | refine wNot ?_ | refine wAndV ?_ | refine wOrV ?_ | refine wNotV ?_ | refine wTup ?_ | refine wLst ?_ | refine wLstF ?_ | refine wSl ?_ | refine wNoPart ?_ | refine wPart ?_ | refine wBM ?_ | refine wSub ?_ | refine wFor ?_ | refine wIterL ?_ | refine wRng1 ?_ | refine wZip ?_ | refine wLc ?_ | refine wLcF ?_ | refine wYes ?_ | refine wAddI ?_ | refine wIntT ?_ | refine wInt1 ?_ | refine wInt2 ?_ | refine wNext ?_)))
      refine wEqI ?_
      (repeat (with_reducible (first | refine wSeq ?_ | refine wAsg ?_ | refine wRet ?_ | refine wDrop ?_ | refine wName ?_ | (apply wVar; (case h => with_unfolding_all rfl)) | refine wC ?_ | refine wOp ?_ | refine wUn ?_ | refine wNil ?_ | refine wCons ?_ | refine wCB ?_ | refine wCall ?_ | refine wTest ?_ | refine wBool ?_ | refine wInt ?_ | refine wIfS ?_ | refine wIf ?_ | refine wAnd ?_ | refine wOr ?_ | refine wNot ?_ | refine wAndV ?_ | refine wOrV ?_ | refine wNotV ?_ | refine wTup ?_ | refine wLst ?_ | refine wLstF ?_ | refine wSl ?_ | refine wNoPart ?_ | refine wPart ?_ | refine wBM ?_ | refine wSub ?_ | refine wFor ?_ | refine wIterL ?_ | refine wRng1 ?_ | refine wZip ?_ | refine wLc ?_ | refine wLcF ?_ | refine wYes ?_ | refine wAddI ?_ | refine wIntT ?_ | refine wInt1 ?_ | refine wInt2 ?_ | refine wNext ?_)))
      by_cases c : ((z.1 : Nat) : Int) = 0 + (i : Nat)
      · rw [if_pos (by simpa using c)]
        (repeat (with_reducible (first | refine wSeq ?_ | refine wAsg ?_ | refine wRet ?_ | refine wDrop ?_ | refine wName ?_ | (apply wVar; (case h => with_unfolding_all rfl)) | refine wC ?_ | refine wOp ?_ | refine wUn ?_ | refine wNil ?_ | refine wCons ?_ | refine wCB ?_ | refine wCall ?_ | refine wTest ?_ | refine wBool ?_ | refine wInt ?_ | refine wIfS ?_ | refine wIf ?_ | refine wAnd ?_ | refine wOr ?_ | refine wNot ?_ | refine wAndV ?_ | refine wOrV ?_ | refine wNotV ?_ | refine wTup ?_ | refine wLst ?_ | refine wLstF ?_ | refine wSl ?_ | refine wNoPart ?_ | refine wPart ?_ | refine wBM ?_ | refine wSub ?_ | refine wFor ?_ | refine wIterL ?_ | refine wRng1 ?_ | refine wZip ?_ | refine wLc ?_ | refine wLcF ?_ | refine wYes ?_ | refine wAddI ?_ | refine wIntT ?_ | refine wInt1 ?_ | refine wInt2 ?_ | refine wNext ?_)))
        exact h1 (by simpa [keyV] using c)
      · rw [if_neg (by simpa using c)]
        exact h2 (by simpa [keyV] using c)
    · have e : (s.map keyV).filter (fun x => match x with
        | .d (.tuple (.int c :: _)) => decide (c = 0 + (i : Nat))
        | _ => false) = (s.filter fun x => decide (x.1 = i)).map keyV := by
        rw [List.filter_map]
        congr 1
        refine List.filter_congr fun x _ => ?_
        simp [keyV]
        omega
      rw [e]
      refine ⟨_, data_keys _, put_same, ?_⟩
      rw [put_put, put_self ha]
      (repeat (with_reducible (first | refine wSeq ?_ | refine wAsg ?_ | refine wRet ?_ | refine wDrop ?_ | refine wName ?_ | (apply wVar; (case h => with_unfolding_all rfl)) | refine wC ?_ | refine wOp ?_ | refine wUn ?_ | refine wNil ?_ | refine wCons ?_ | refine wCB ?_ | refine wCall ?_ | refine wTest ?_ | refine wBool ?_ | refine wInt ?_ | refine wIfS ?_ | refine wIf ?_ | refine wAnd ?_ | refine wOr ?_ | refine wNot ?_ | refine wAndV ?_ | refine wOrV ?_ | refine wNotV ?_ | refine wTup ?_ | refine wLst ?_ | refine wLstF ?_ | refine wSl ?_ | refine wNoPart ?_ | refine wPart ?_ | refine wBM ?_ | refine wSub ?_ | refine wFor ?_ | refine wIterL ?_ | refine wRng1 ?_ | refine wZip ?_ | refine wLc ?_ | refine wLcF ?_ | refine wYes ?_ | refine wAddI ?_ | refine wIntT ?_ | refine wInt1 ?_ | refine wInt2 ?_ | refine wNext ?_)))
      refine wLenL seqOf_list ?_
      have e2 : y = .d (.int ((((s.filter fun x => decide (x.1 = i)).map fun x => PyData.tuple [.int x.1, .int x.2]).map DV.d).length : Nat)) := by
        rw [List.getElem?_map, cntK, List.getElem?_map, List.getElem?_range hi] at hy
        rw [← Option.some.inj hy]
        simp [List.countP_eq_length_filter]
      rw [← e2]
      exact k
  · exact ⟨_, data_vec _, wTupF q⟩
theorem rd__law_same : ∀ ds M Q, sp__law_same ds M Q → w__law_same { nx := fun _ M' => Q (.d .none) M', rt := Q } (dstart N__law_same ds) M := by
  rintro ds M Q ⟨x, y, a, n, rfl, hx, hy, ok, hn, ⟨s1, s2, s3, s4⟩, q⟩
  unfold w__law_same
  (repeat (with_reducible (first | refine wSeq ?_ | refine wAsg ?_ | refine wRet ?_ | refine wDrop ?_ | refine wName ?_ | (apply wVar; (case h => with_unfolding_all rfl)) | refine wC ?_ | refine wOp ?_ | refine wUn ?_ | refine wNil ?_ | refine wCons ?_ | refine wCB ?_ | refine wCall ?_ | refine wTest ?_ | refine wBool ?_ | refine wInt ?_ | refine wIfS ?_ | refine wIf ?_ | refine wAnd ?_ | refine wOr ?_ | refine wNot ?_ | refine wAndV ?_ | refine wOrV ?_ | refine wNotV ?_ | refine wTup ?_ | refine wLst ?_ | refine wLstF ?_ | refine wSl ?_ | refine wNoPart ?_ | refine wPart ?_ | refine wBM ?_ | refine wSub ?_ | refine wFor ?_ | refine wIterL ?_ | refine wRng1 ?_ | refine wZip ?_ | refine wLc ?_ | refine wLcF ?_ | refine wYes ?_ | refine wAddI ?_ | refine wIntT ?_ | refine wInt1 ?_ | refine wInt2 ?_ | refine wNext ?_)))
  refine wEq hx hy ok ok hn hn fun k hk => ?_
  rw [hk.mpr rfl]
  (repeat (with_reducible (first | refine wSeq ?_ | refine wAsg ?_ | refine wRet ?_ | refine wDrop ?_ | refine wName ?_ | (apply wVar; (case h => with_unfolding_all rfl)) | refine wC ?_ | refine wOp ?_ | refine wUn ?_ | refine wNil ?_ | refine wCons ?_ | refine wCB ?_ | refine wCall ?_ | refine wTest ?_ | refine wBool ?_ | refine wInt ?_ | refine wIfS ?_ | refine wIf ?_ | refine wAnd ?_ | refine wOr ?_ | refine wNot ?_ | refine wAndV ?_ | refine wOrV ?_ | refine wNotV ?_ | refine wTup ?_ | refine wLst ?_ | refine wLstF ?_ | refine wSl ?_ | refine wNoPart ?_ | refine wPart ?_ | refine wBM ?_ | refine wSub ?_ | refine wFor ?_ | refine wIterL ?_ | refine wRng1 ?_ | refine wZip ?_ | refine wLc ?_ | refine wLcF ?_ | refine wYes ?_ | refine wAddI ?_ | refine wIntT ?_ | refine wInt1 ?_ | refine wInt2 ?_ | refine wNext ?_)))
  rw [if_pos rfl]
  (repeat (with_reducible (first | refine wSeq ?_ | refine wAsg ?_ | refine wRet ?_ | refine wDrop ?_ | refine wName ?_ | (apply wVar; (case h => with_unfolding_all rfl)) | refine wC ?_ | refine wOp ?_ | refine wUn ?_ | refine wNil ?_ | refine wCons ?_ | refine wCB ?_ | refine wCall ?_ | refine wTest ?_ | refine wBool ?_ | refine wInt ?_ | refine wIfS ?_ | refine wIf ?_ | refine wAnd ?_ | refine wOr ?_ | refine wNot ?_ | refine wAndV ?_ | refine wOrV ?_ | refine wNotV ?_ | refine wTup ?_ | refine wLst ?_ | refine wLstF ?_ | refine wSl ?_ | refine wNoPart ?_ | refine wPart ?_ | refine wBM ?_ | refine wSub ?_ | refine wFor ?_ | refine wIterL ?_ | refine wRng1 ?_ | refine wZip ?_ | refine wLc ?_ | refine wLcF ?_ | refine wYes ?_ | refine wAddI ?_ | refine wIntT ?_ | refine wInt1 ?_ | refine wInt2 ?_ | refine wNext ?_)))
  refine ⟨x, a, rfl, hx, s1, s2, s3, s4, ?_⟩
  (repeat (with_reducible (first | refine wSeq ?_ | refine wAsg ?_ | refine wRet ?_ | refine wDrop ?_ | refine wName ?_ | (apply wVar; (case h => with_unfolding_all rfl)) | refine wC ?_ | refine wOp ?_ | refine wUn ?_ | refine wNil ?_ | refine wCons ?_ | refine wCB ?_ | refine wCall ?_ | refine wTest ?_ | refine wBool ?_ | refine wInt ?_ | refine wIfS ?_ | refine wIf ?_ | refine wAnd ?_ | refine wOr ?_ | refine wNot ?_ | refine wAndV ?_ | refine wOrV ?_ | refine wNotV ?_ | refine wTup ?_ | refine wLst ?_ | refine wLstF ?_ | refine wSl ?_ | refine wNoPart ?_ | refine wPart ?_ | refine wBM ?_ | refine wSub ?_ | refine wFor ?_ | refine wIterL ?_ | refine wRng1 ?_ | refine wZip ?_ | refine wLc ?_ | refine wLcF ?_ | refine wYes ?_ | refine wAddI ?_ | refine wIntT ?_ | refine wInt1 ?_ | refine wInt2 ?_ | refine wNext ?_)))
  refine ⟨y, a, rfl, hy, s1, s2, s3, s4, ?_⟩
  refine wEqS ?_
  rw [decide_eq_true rfl]
  exact q
end DL

set_option Elab.async false
set_option linter.all false
set_option maxRecDepth 100000
set_option maxHeartbeats 4000000
namespace DL
open PySem L2 PyProof.Rows
theorem getD_some {α : Type} {xs : List α} {i : Nat} {d : α} (h : i < xs.length) : xs[i]? = some (xs.getD i d) := by simp [List.getD, h]
theorem Sq.row_at {n : Nat} {F : Sheets} (h : Sq n F) {i : Nat} (hi : i < n) : (F.getD i []).length = n := by
  have h1 : F[i]? = some (F.getD i []) := getD_some (by rw [h.len]; exact hi)
  exact (h.row _ (List.mem_of_getElem? h1)).1
theorem Sq.at2 {n : Nat} {F : Sheets} (h : Sq n F) {i j : Nat} (hi : i < n) (hj : j < n) : (F.getD i [])[j]? = some (DL.at2 F i j) ∧ (DL.at2 F i j).length = n := by
  have h1 : F[i]? = some (F.getD i []) := getD_some (by rw [h.len]; exact hi)
  have h2 : (F.getD i [])[j]? = some (DL.at2 F i j) := getD_some (by rw [h.row_at hi]; exact hj)
  exact ⟨h2, (h.row _ (List.mem_of_getElem? h1)).2 _ (List.mem_of_getElem? h2)⟩
theorem Sq.set {n : Nat} {F : Sheets} (h : Sq n F) {s : Sheet} (i : Nat) (hs : s.length = n ∧ ∀ v ∈ s, v.length = n) : Sq n (F.set i s) := by
  refine ⟨by rw [List.length_set, h.len], fun t ht => ?_⟩
  rcases List.mem_or_eq_of_mem_set ht with c | c
  · exact h.row t c
  · rw [c]; exact hs
theorem sheet_set {n : Nat} {s : Sheet} {v : Vec} (i : Nat) (h : s.length = n ∧ ∀ v ∈ s, v.length = n) (hv : v.length = n) : (s.set i v).length = n ∧ ∀ u ∈ s.set i v, u.length = n := by
  refine ⟨by rw [List.length_set, h.1], fun u hu => ?_⟩
  rcases List.mem_or_eq_of_mem_set hu with c | c
  · exact h.2 u c
  · rw [c]; exact hv
theorem Sq.rowOk {n : Nat} {F : Sheets} (h : Sq n F) {i : Nat} (hi : i < n) : (F.getD i []).length = n ∧ ∀ v ∈ F.getD i [], v.length = n := by
  have h1 : F[i]? = some (F.getD i []) := getD_some (by rw [h.len]; exact hi)
  exact h.row _ (List.mem_of_getElem? h1)
theorem joinedS_ok {n : Nat} {s t : Sheet} (h : s.length = n ∧ ∀ v ∈ s, v.length = n) (h' : t.length = n ∧ ∀ v ∈ t, v.length = n) : (joinedS s t).length = n ∧ ∀ v ∈ joinedS s t, v.length = n := by
  refine ⟨by simp [joinedS, h.1, h'.1], fun v hv => ?_⟩
  obtain ⟨i, hi⟩ := List.getElem?_of_mem hv
  rw [joinedS, List.getElem?_zipWith] at hi
  cases ea : s[i]? with
  | none => rw [ea] at hi; simp at hi
  | some a =>
    cases eb : t[i]? with
    | none => rw [ea, eb] at hi; simp at hi
    | some b =>
      rw [ea, eb] at hi
      rw [← Option.some.inj hi]
      simp [joinV, h.2 a (List.mem_of_getElem? ea), h'.2 b (List.mem_of_getElem? eb)]
theorem raisedV_len (v : Vec) (c : Nat) : (raisedV v c).length = v.length := by simp [raisedV]
theorem Sq.behind {n : Nat} {F : Sheets} (h : Sq n F) {act : Act} (ok : act.ok n) : Sq n (behindF F act) := by
  cases act with
  | make c => exact h.set _ (sheet_set _ (h.rowOk ok) (by rw [raisedV_len]; exact (h.at2 ok ok).2))
  | tell a b => exact h.set _ (sheet_set _ (joinedS_ok (h.rowOk ok.1) (h.rowOk ok.2.1)) (by simp [joinV, (h.at2 ok.1 ok.1).2, (h.at2 ok.2.1 ok.2.1).2]))
  | meet a b =>
    have s := sheet_set a (sheet_set b (joinedS_ok (h.rowOk ok.1) (h.rowOk ok.2.1)) (v := joinV (DL.at2 F a a) (DL.at2 F b b)) (by simp [joinV, (h.at2 ok.1 ok.1).2, (h.at2 ok.2.1 ok.2.1).2])) (v := joinV (DL.at2 F a a) (DL.at2 F b b)) (by simp [joinV, (h.at2 ok.1 ok.1).2, (h.at2 ok.2.1 ok.2.1).2])
    exact (h.set _ s).set _ s
/-- the rows alone -/
structure RowsO (M : DM) (refs : List Addr) (F : Sheets) : Prop where
  len : refs.length = F.length
  nd : refs.Nodup
  row : ∀ i r, refs[i]? = some r → M r = some (.lst ((F.getD i []).map vecV))
theorem RowsAt.o {M : DM} {p : Addr} {refs : List Addr} {F : Sheets} (h : RowsAt M p refs F) : RowsO M refs F := ⟨h.len, h.nd, h.row⟩
theorem nodup_set {α : Type} {r : α} : ∀ {xs : List α} (i : Nat), xs.Nodup → r ∉ xs → (xs.set i r).Nodup
  | [], i, h, hr => by simp
  | x :: xs, 0, h, hr => by
    simp only [List.set_cons_zero, List.nodup_cons]
    exact ⟨fun z => hr (List.mem_cons_of_mem _ z), (List.nodup_cons.mp h).2⟩
  | x :: xs, i + 1, h, hr => by
    simp only [List.set_cons_succ, List.nodup_cons]
    obtain ⟨h1, h2⟩ := List.nodup_cons.mp h
    refine ⟨fun z => ?_, nodup_set i h2 fun z => hr (List.mem_cons_of_mem _ z)⟩
    rcases List.mem_or_eq_of_mem_set z with c | c
    · exact h1 c
    · exact hr (by rw [← c]; exact List.mem_cons_self)
theorem RowsO.set {M M' : DM} {refs : List Addr} {F : Sheets} {r : Addr} {s : Sheet} (h : RowsO M refs F) (c : Nat) (keep : ∀ (i : Nat) (x : Addr), refs[i]? = some x → i ≠ c → M' x = M x) (hr : r ∉ refs) (e : M' r = some (.lst (s.map vecV))) : RowsO M' (refs.set c r) (F.set c s) := by
  refine ⟨by simp [h.len], nodup_set c h.nd hr, fun i x hx => ?_⟩
  by_cases ic : i = c
  · subst ic
    have hi : i < refs.length := by
      obtain ⟨z, _⟩ := List.getElem?_eq_some_iff.mp hx
      simpa using z
    rw [List.getElem?_set_self hi] at hx
    obtain rfl := Option.some.inj hx
    have : (F.set i s).getD i [] = s := by
      have hi2 : i < F.length := by rw [← h.len]; exact hi
      simp [List.getD, hi2]
    rw [this]
    exact e
  · rw [List.getElem?_set_ne (Ne.symm ic)] at hx
    rw [keep i x hx ic]
    have : (F.set c s).getD i [] = F.getD i [] := by simp only [List.getD, List.getElem?_set_ne (Ne.symm ic)]
    rw [this]
    exact h.row i x hx
theorem map_set_ref (refs : List Addr) (c : Nat) (r : Addr) : (refs.map DV.ref).set c (.ref r) = (refs.set c r).map .ref := by rw [List.map_set]
theorem map_set_vec (s : Sheet) (c : Nat) (v : Vec) : (s.map vecV).set c (vecV v) = (s.set c v).map vecV := by rw [List.map_set]
theorem ref_get {refs : List Addr} {i : Nat} {r : Addr} (h : refs[i]? = some r) : (refs.map DV.ref)[i]? = some (.ref r) := by rw [List.getElem?_map, h]; rfl
theorem vec_at {s : Sheet} {i : Nat} {v : Vec} (h : s[i]? = some v) : (s.map vecV)[i]? = some (vecV v) := by rw [List.getElem?_map, h]; rfl
theorem rd_behind : ∀ ds M Q, sp_behind ds M Q → w_behind { nx := fun _ M' => Q (.d .none) M', rt := Q } (dstart N_behind ds) M := by
  rintro ds M Q ⟨n, p, refs, F, act, rfl, hn, sq, ra, ok, q⟩
  have rlen : refs.length = n := by rw [ra.len, sq.len]
  have refAt : ∀ i, i < n → ∃ r, refs[i]? = some r ∧ M r = some (.lst ((F.getD i []).map vecV)) := fun i hi => by
    have h : refs[i]? = some (refs[i]'(by omega)) := List.getElem?_eq_getElem _
    exact ⟨_, h, ra.row _ _ h⟩
  have known : ∀ {r : Addr}, r ∈ refs → M r ≠ none := fun {r} hr e => by
    obtain ⟨i, hi⟩ := List.getElem?_of_mem hr
    rw [ra.row _ _ hi] at e
    cases e
  unfold w_behind
  (repeat (with_reducible (first | refine wSeq ?_ | refine wAsg ?_ | refine wRet ?_ | refine wDrop ?_ | refine wName ?_ | (apply wVar; (case h => with_unfolding_all rfl)) | refine wC ?_ | refine wOp ?_ | refine wUn ?_ | refine wNil ?_ | refine wCons ?_ | refine wCB ?_ | refine wCall ?_ | refine wTest ?_ | refine wBool ?_ | refine wInt ?_ | refine wIfS ?_ | refine wIf ?_ | refine wAnd ?_ | refine wOr ?_ | refine wNot ?_ | refine wAndV ?_ | refine wOrV ?_ | refine wNotV ?_ | refine wTup ?_ | refine wLst ?_ | refine wLstF ?_ | refine wSl ?_ | refine wNoPart ?_ | refine wPart ?_ | refine wBM ?_ | refine wSub ?_ | refine wFor ?_ | refine wIterL ?_ | refine wRng1 ?_ | refine wZip ?_ | refine wLc ?_ | refine wLcF ?_ | refine wYes ?_ | refine wAddI ?_ | refine wIntT ?_ | refine wInt1 ?_ | refine wInt2 ?_ | refine wNext ?_)))
  refine wList1 (seqOf_ref ra.top) fun z hz => ?_
  (repeat (with_reducible (first | refine wSeq ?_ | refine wAsg ?_ | refine wRet ?_ | refine wDrop ?_ | refine wName ?_ | (apply wVar; (case h => with_unfolding_all rfl)) | refine wC ?_ | refine wOp ?_ | refine wUn ?_ | refine wNil ?_ | refine wCons ?_ | refine wCB ?_ | refine wCall ?_ | refine wTest ?_ | refine wBool ?_ | refine wInt ?_ | refine wIfS ?_ | refine wIf ?_ | refine wAnd ?_ | refine wOr ?_ | refine wNot ?_ | refine wAndV ?_ | refine wOrV ?_ | refine wNotV ?_ | refine wTup ?_ | refine wLst ?_ | refine wLstF ?_ | refine wSl ?_ | refine wNoPart ?_ | refine wPart ?_ | refine wBM ?_ | refine wSub ?_ | refine wFor ?_ | refine wIterL ?_ | refine wRng1 ?_ | refine wZip ?_ | refine wLc ?_ | refine wLcF ?_ | refine wYes ?_ | refine wAddI ?_ | refine wIntT ?_ | refine wInt1 ?_ | refine wInt2 ?_ | refine wNext ?_)))
  cases act with
  | make c =>
    have hc : c < n := ok
    obtain ⟨r0, hr0, er0⟩ := refAt c hc
    have n0 : r0 ≠ z := Ext.ne hz er0
    obtain ⟨hcc, hlen⟩ := sq.at2 hc hc
    refine wIx 1 (d := .d (.int c)) seqOf_tup rfl rfl ?_
    (repeat (with_reducible (first | refine wSeq ?_ | refine wAsg ?_ | refine wRet ?_ | refine wDrop ?_ | refine wName ?_ | (apply wVar; (case h => with_unfolding_all rfl)) | refine wC ?_ | refine wOp ?_ | refine wUn ?_ | refine wNil ?_ | refine wCons ?_ | refine wCB ?_ | refine wCall ?_ | refine wTest ?_ | refine wBool ?_ | refine wInt ?_ | refine wIfS ?_ | refine wIf ?_ | refine wAnd ?_ | refine wOr ?_ | refine wNot ?_ | refine wAndV ?_ | refine wOrV ?_ | refine wNotV ?_ | refine wTup ?_ | refine wLst ?_ | refine wLstF ?_ | refine wSl ?_ | refine wNoPart ?_ | refine wPart ?_ | refine wBM ?_ | refine wSub ?_ | refine wFor ?_ | refine wIterL ?_ | refine wRng1 ?_ | refine wZip ?_ | refine wLc ?_ | refine wLcF ?_ | refine wYes ?_ | refine wAddI ?_ | refine wIntT ?_ | refine wInt1 ?_ | refine wInt2 ?_ | refine wNext ?_)))
    refine wIx 0 (d := .d (.str "make")) seqOf_tup rfl rfl ?_
    (repeat (with_reducible (first | refine wSeq ?_ | refine wAsg ?_ | refine wRet ?_ | refine wDrop ?_ | refine wName ?_ | (apply wVar; (case h => with_unfolding_all rfl)) | refine wC ?_ | refine wOp ?_ | refine wUn ?_ | refine wNil ?_ | refine wCons ?_ | refine wCB ?_ | refine wCall ?_ | refine wTest ?_ | refine wBool ?_ | refine wInt ?_ | refine wIfS ?_ | refine wIf ?_ | refine wAnd ?_ | refine wOr ?_ | refine wNot ?_ | refine wAndV ?_ | refine wOrV ?_ | refine wNotV ?_ | refine wTup ?_ | refine wLst ?_ | refine wLstF ?_ | refine wSl ?_ | refine wNoPart ?_ | refine wPart ?_ | refine wBM ?_ | refine wSub ?_ | refine wFor ?_ | refine wIterL ?_ | refine wRng1 ?_ | refine wZip ?_ | refine wLc ?_ | refine wLcF ?_ | refine wYes ?_ | refine wAddI ?_ | refine wIntT ?_ | refine wInt1 ?_ | refine wInt2 ?_ | refine wNext ?_)))
    refine wEqS ?_
    (repeat (with_reducible (first | refine wSeq ?_ | refine wAsg ?_ | refine wRet ?_ | refine wDrop ?_ | refine wName ?_ | (apply wVar; (case h => with_unfolding_all rfl)) | refine wC ?_ | refine wOp ?_ | refine wUn ?_ | refine wNil ?_ | refine wCons ?_ | refine wCB ?_ | refine wCall ?_ | refine wTest ?_ | refine wBool ?_ | refine wInt ?_ | refine wIfS ?_ | refine wIf ?_ | refine wAnd ?_ | refine wOr ?_ | refine wNot ?_ | refine wAndV ?_ | refine wOrV ?_ | refine wNotV ?_ | refine wTup ?_ | refine wLst ?_ | refine wLstF ?_ | refine wSl ?_ | refine wNoPart ?_ | refine wPart ?_ | refine wBM ?_ | refine wSub ?_ | refine wFor ?_ | refine wIterL ?_ | refine wRng1 ?_ | refine wZip ?_ | refine wLc ?_ | refine wLcF ?_ | refine wYes ?_ | refine wAddI ?_ | refine wIntT ?_ | refine wInt1 ?_ | refine wInt2 ?_ | refine wNext ?_)))
    rw [if_pos (by simp)]
    (repeat (with_reducible (first | refine wSeq ?_ | refine wAsg ?_ | refine wRet ?_ | refine wDrop ?_ | refine wName ?_ | (apply wVar; (case h => with_unfolding_all rfl)) | refine wC ?_ | refine wOp ?_ | refine wUn ?_ | refine wNil ?_ | refine wCons ?_ | refine wCB ?_ | refine wCall ?_ | refine wTest ?_ | refine wBool ?_ | refine wInt ?_ | refine wIfS ?_ | refine wIf ?_ | refine wAnd ?_ | refine wOr ?_ | refine wNot ?_ | refine wAndV ?_ | refine wOrV ?_ | refine wNotV ?_ | refine wTup ?_ | refine wLst ?_ | refine wLstF ?_ | refine wSl ?_ | refine wNoPart ?_ | refine wPart ?_ | refine wBM ?_ | refine wSub ?_ | refine wFor ?_ | refine wIterL ?_ | refine wRng1 ?_ | refine wZip ?_ | refine wLc ?_ | refine wLcF ?_ | refine wYes ?_ | refine wAddI ?_ | refine wIntT ?_ | refine wInt1 ?_ | refine wInt2 ?_ | refine wNext ?_)))
    refine wIx c (seqOf_ref put_same) (ref_get hr0) rfl ?_
    (repeat (with_reducible (first | refine wSeq ?_ | refine wAsg ?_ | refine wRet ?_ | refine wDrop ?_ | refine wName ?_ | (apply wVar; (case h => with_unfolding_all rfl)) | refine wC ?_ | refine wOp ?_ | refine wUn ?_ | refine wNil ?_ | refine wCons ?_ | refine wCB ?_ | refine wCall ?_ | refine wTest ?_ | refine wBool ?_ | refine wInt ?_ | refine wIfS ?_ | refine wIf ?_ | refine wAnd ?_ | refine wOr ?_ | refine wNot ?_ | refine wAndV ?_ | refine wOrV ?_ | refine wNotV ?_ | refine wTup ?_ | refine wLst ?_ | refine wLstF ?_ | refine wSl ?_ | refine wNoPart ?_ | refine wPart ?_ | refine wBM ?_ | refine wSub ?_ | refine wFor ?_ | refine wIterL ?_ | refine wRng1 ?_ | refine wZip ?_ | refine wLc ?_ | refine wLcF ?_ | refine wYes ?_ | refine wAddI ?_ | refine wIntT ?_ | refine wInt1 ?_ | refine wInt2 ?_ | refine wNext ?_)))
    refine wList1 (seqOf_ref (by rw [put_ne n0]; exact er0)) fun r hr => ?_
    have rz : r ≠ z := fun e => by rw [e, put_same] at hr; cases hr
    have hr' : M r = none := by rw [put_ne rz] at hr; exact hr
    (repeat (with_reducible (first | refine wSeq ?_ | refine wAsg ?_ | refine wRet ?_ | refine wDrop ?_ | refine wName ?_ | (apply wVar; (case h => with_unfolding_all rfl)) | refine wC ?_ | refine wOp ?_ | refine wUn ?_ | refine wNil ?_ | refine wCons ?_ | refine wCB ?_ | refine wCall ?_ | refine wTest ?_ | refine wBool ?_ | refine wInt ?_ | refine wIfS ?_ | refine wIf ?_ | refine wAnd ?_ | refine wOr ?_ | refine wNot ?_ | refine wAndV ?_ | refine wOrV ?_ | refine wNotV ?_ | refine wTup ?_ | refine wLst ?_ | refine wLstF ?_ | refine wSl ?_ | refine wNoPart ?_ | refine wPart ?_ | refine wBM ?_ | refine wSub ?_ | refine wFor ?_ | refine wIterL ?_ | refine wRng1 ?_ | refine wZip ?_ | refine wLc ?_ | refine wLcF ?_ | refine wYes ?_ | refine wAddI ?_ | refine wIntT ?_ | refine wInt1 ?_ | refine wInt2 ?_ | refine wNext ?_)))
    refine wIx c (seqOf_ref put_same) (vec_at hcc) rfl ?_
    (repeat (with_reducible (first | refine wSeq ?_ | refine wAsg ?_ | refine wRet ?_ | refine wDrop ?_ | refine wName ?_ | (apply wVar; (case h => with_unfolding_all rfl)) | refine wC ?_ | refine wOp ?_ | refine wUn ?_ | refine wNil ?_ | refine wCons ?_ | refine wCB ?_ | refine wCall ?_ | refine wTest ?_ | refine wBool ?_ | refine wInt ?_ | refine wIfS ?_ | refine wIf ?_ | refine wAnd ?_ | refine wOr ?_ | refine wNot ?_ | refine wAndV ?_ | refine wOrV ?_ | refine wNotV ?_ | refine wTup ?_ | refine wLst ?_ | refine wLstF ?_ | refine wSl ?_ | refine wNoPart ?_ | refine wPart ?_ | refine wBM ?_ | refine wSub ?_ | refine wFor ?_ | refine wIterL ?_ | refine wRng1 ?_ | refine wZip ?_ | refine wLc ?_ | refine wLcF ?_ | refine wYes ?_ | refine wAddI ?_ | refine wIntT ?_ | refine wInt1 ?_ | refine wInt2 ?_ | refine wNext ?_)))
    refine ⟨_, c, rfl, by omega, by omega, ?_⟩
    (repeat (with_reducible (first | refine wSeq ?_ | refine wAsg ?_ | refine wRet ?_ | refine wDrop ?_ | refine wName ?_ | (apply wVar; (case h => with_unfolding_all rfl)) | refine wC ?_ | refine wOp ?_ | refine wUn ?_ | refine wNil ?_ | refine wCons ?_ | refine wCB ?_ | refine wCall ?_ | refine wTest ?_ | refine wBool ?_ | refine wInt ?_ | refine wIfS ?_ | refine wIf ?_ | refine wAnd ?_ | refine wOr ?_ | refine wNot ?_ | refine wAndV ?_ | refine wOrV ?_ | refine wNotV ?_ | refine wTup ?_ | refine wLst ?_ | refine wLstF ?_ | refine wSl ?_ | refine wNoPart ?_ | refine wPart ?_ | refine wBM ?_ | refine wSub ?_ | refine wFor ?_ | refine wIterL ?_ | refine wRng1 ?_ | refine wZip ?_ | refine wLc ?_ | refine wLcF ?_ | refine wYes ?_ | refine wAddI ?_ | refine wIntT ?_ | refine wInt1 ?_ | refine wInt2 ?_ | refine wNext ?_)))
    refine wSetL c rfl put_same (by rw [List.length_map, sq.row_at hc]; exact hc) rfl ?_
    (repeat (with_reducible (first | refine wSeq ?_ | refine wAsg ?_ | refine wRet ?_ | refine wDrop ?_ | refine wName ?_ | (apply wVar; (case h => with_unfolding_all rfl)) | refine wC ?_ | refine wOp ?_ | refine wUn ?_ | refine wNil ?_ | refine wCons ?_ | refine wCB ?_ | refine wCall ?_ | refine wTest ?_ | refine wBool ?_ | refine wInt ?_ | refine wIfS ?_ | refine wIf ?_ | refine wAnd ?_ | refine wOr ?_ | refine wNot ?_ | refine wAndV ?_ | refine wOrV ?_ | refine wNotV ?_ | refine wTup ?_ | refine wLst ?_ | refine wLstF ?_ | refine wSl ?_ | refine wNoPart ?_ | refine wPart ?_ | refine wBM ?_ | refine wSub ?_ | refine wFor ?_ | refine wIterL ?_ | refine wRng1 ?_ | refine wZip ?_ | refine wLc ?_ | refine wLcF ?_ | refine wYes ?_ | refine wAddI ?_ | refine wIntT ?_ | refine wInt1 ?_ | refine wInt2 ?_ | refine wNext ?_)))
    refine wSetL c rfl (by rw [put_put, put_ne rz.symm, put_same]) (by simp [rlen]; exact hc) rfl ?_
    (repeat (with_reducible (first | refine wSeq ?_ | refine wAsg ?_ | refine wRet ?_ | refine wDrop ?_ | refine wName ?_ | (apply wVar; (case h => with_unfolding_all rfl)) | refine wC ?_ | refine wOp ?_ | refine wUn ?_ | refine wNil ?_ | refine wCons ?_ | refine wCB ?_ | refine wCall ?_ | refine wTest ?_ | refine wBool ?_ | refine wInt ?_ | refine wIfS ?_ | refine wIf ?_ | refine wAnd ?_ | refine wOr ?_ | refine wNot ?_ | refine wAndV ?_ | refine wOrV ?_ | refine wNotV ?_ | refine wTup ?_ | refine wLst ?_ | refine wLstF ?_ | refine wSl ?_ | refine wNoPart ?_ | refine wPart ?_ | refine wBM ?_ | refine wSub ?_ | refine wFor ?_ | refine wIterL ?_ | refine wRng1 ?_ | refine wZip ?_ | refine wLc ?_ | refine wLcF ?_ | refine wYes ?_ | refine wAddI ?_ | refine wIntT ?_ | refine wInt1 ?_ | refine wInt2 ?_ | refine wNext ?_)))
    rw [map_set_ref, map_set_vec, put_put, put_comm rz, put_put]
    have nr : r ∉ refs := fun e => known e hr'
    have nz : z ∉ refs := fun e => known e hz
    refine q z (refs.set c r) _ ?_ hz ?_ ?_
    · exact (Ext.new hz _).trans (Ext.new (by rw [put_ne rz]; exact hr') _)
    · have o := ra.o.set (M' := put (put M z (.lst ((refs.set c r).map .ref))) r (.lst (((F.getD c []).set c (raisedV (at2 F c c) c)).map vecV))) (r := r) (s := (F.getD c []).set c (raisedV (at2 F c c) c)) c ?_ nr put_same
      · refine ⟨by rw [put_ne rz.symm, put_same], o.len, o.nd, o.row, fun e => ?_⟩
        rcases List.mem_or_eq_of_mem_set e with c | c
        · exact nz c
        · exact rz c.symm
      · intro i x hx ic
        have hx' := List.mem_of_getElem? hx
        rw [put_ne fun e => nr (by rw [← e]; exact hx'), put_ne fun e => nz (by rw [← e]; exact hx')]
    · intro x hx
      rcases List.mem_or_eq_of_mem_set hx with c | c
      · exact .inl c
      · exact .inr (by rw [c]; exact hr')
  | tell a b =>
    obtain ⟨ha, hb, nab⟩ := ok
    obtain ⟨ra0, hra, era⟩ := refAt a ha
    obtain ⟨rb0, hrb, erb⟩ := refAt b hb
    have na : ra0 ≠ z := Ext.ne hz era
    have nb : rb0 ≠ z := Ext.ne hz erb
    obtain ⟨haa, haal⟩ := sq.at2 ha ha
    obtain ⟨hbb, hbbl⟩ := sq.at2 hb hb
    have oka := sq.rowOk ha
    have okb := sq.rowOk hb
    have nz : z ∉ refs := fun e => known e hz
    refine wIx 1 (d := .d (.int a)) seqOf_tup rfl rfl ?_
    (repeat (with_reducible (first | refine wSeq ?_ | refine wAsg ?_ | refine wRet ?_ | refine wDrop ?_ | refine wName ?_ | (apply wVar; (case h => with_unfolding_all rfl)) | refine wC ?_ | refine wOp ?_ | refine wUn ?_ | refine wNil ?_ | refine wCons ?_ | refine wCB ?_ | refine wCall ?_ | refine wTest ?_ | refine wBool ?_ | refine wInt ?_ | refine wIfS ?_ | refine wIf ?_ | refine wAnd ?_ | refine wOr ?_ | refine wNot ?_ | refine wAndV ?_ | refine wOrV ?_ | refine wNotV ?_ | refine wTup ?_ | refine wLst ?_ | refine wLstF ?_ | refine wSl ?_ | refine wNoPart ?_ | refine wPart ?_ | refine wBM ?_ | refine wSub ?_ | refine wFor ?_ | refine wIterL ?_ | refine wRng1 ?_ | refine wZip ?_ | refine wLc ?_ | refine wLcF ?_ | refine wYes ?_ | refine wAddI ?_ | refine wIntT ?_ | refine wInt1 ?_ | refine wInt2 ?_ | refine wNext ?_)))
    refine wIx 0 (d := .d (.str "tell")) seqOf_tup rfl rfl ?_
    (repeat (with_reducible (first | refine wSeq ?_ | refine wAsg ?_ | refine wRet ?_ | refine wDrop ?_ | refine wName ?_ | (apply wVar; (case h => with_unfolding_all rfl)) | refine wC ?_ | refine wOp ?_ | refine wUn ?_ | refine wNil ?_ | refine wCons ?_ | refine wCB ?_ | refine wCall ?_ | refine wTest ?_ | refine wBool ?_ | refine wInt ?_ | refine wIfS ?_ | refine wIf ?_ | refine wAnd ?_ | refine wOr ?_ | refine wNot ?_ | refine wAndV ?_ | refine wOrV ?_ | refine wNotV ?_ | refine wTup ?_ | refine wLst ?_ | refine wLstF ?_ | refine wSl ?_ | refine wNoPart ?_ | refine wPart ?_ | refine wBM ?_ | refine wSub ?_ | refine wFor ?_ | refine wIterL ?_ | refine wRng1 ?_ | refine wZip ?_ | refine wLc ?_ | refine wLcF ?_ | refine wYes ?_ | refine wAddI ?_ | refine wIntT ?_ | refine wInt1 ?_ | refine wInt2 ?_ | refine wNext ?_)))
    refine wEqS ?_
    (repeat (with_reducible (first | refine wSeq ?_ | refine wAsg ?_ | refine wRet ?_ | refine wDrop ?_ | refine wName ?_ | (apply wVar; (case h => with_unfolding_all rfl)) | refine wC ?_ | refine wOp ?_ | refine wUn ?_ | refine wNil ?_ | refine wCons ?_ | refine wCB ?_ | refine wCall ?_ | refine wTest ?_ | refine wBool ?_ | refine wInt ?_ | refine wIfS ?_ | refine wIf ?_ | refine wAnd ?_ | refine wOr ?_ | refine wNot ?_ | refine wAndV ?_ | refine wOrV ?_ | refine wNotV ?_ | refine wTup ?_ | refine wLst ?_ | refine wLstF ?_ | refine wSl ?_ | refine wNoPart ?_ | refine wPart ?_ | refine wBM ?_ | refine wSub ?_ | refine wFor ?_ | refine wIterL ?_ | refine wRng1 ?_ | refine wZip ?_ | refine wLc ?_ | refine wLcF ?_ | refine wYes ?_ | refine wAddI ?_ | refine wIntT ?_ | refine wInt1 ?_ | refine wInt2 ?_ | refine wNext ?_)))
    rw [if_neg (by simp only [decide_eq_true_eq]; exact sim_make.2.2.1)]
    (repeat (with_reducible (first | refine wSeq ?_ | refine wAsg ?_ | refine wRet ?_ | refine wDrop ?_ | refine wName ?_ | (apply wVar; (case h => with_unfolding_all rfl)) | refine wC ?_ | refine wOp ?_ | refine wUn ?_ | refine wNil ?_ | refine wCons ?_ | refine wCB ?_ | refine wCall ?_ | refine wTest ?_ | refine wBool ?_ | refine wInt ?_ | refine wIfS ?_ | refine wIf ?_ | refine wAnd ?_ | refine wOr ?_ | refine wNot ?_ | refine wAndV ?_ | refine wOrV ?_ | refine wNotV ?_ | refine wTup ?_ | refine wLst ?_ | refine wLstF ?_ | refine wSl ?_ | refine wNoPart ?_ | refine wPart ?_ | refine wBM ?_ | refine wSub ?_ | refine wFor ?_ | refine wIterL ?_ | refine wRng1 ?_ | refine wZip ?_ | refine wLc ?_ | refine wLcF ?_ | refine wYes ?_ | refine wAddI ?_ | refine wIntT ?_ | refine wInt1 ?_ | refine wInt2 ?_ | refine wNext ?_)))
    refine wIx 2 (d := .d (.int b)) seqOf_tup rfl rfl ?_
    (repeat (with_reducible (first | refine wSeq ?_ | refine wAsg ?_ | refine wRet ?_ | refine wDrop ?_ | refine wName ?_ | (apply wVar; (case h => with_unfolding_all rfl)) | refine wC ?_ | refine wOp ?_ | refine wUn ?_ | refine wNil ?_ | refine wCons ?_ | refine wCB ?_ | refine wCall ?_ | refine wTest ?_ | refine wBool ?_ | refine wInt ?_ | refine wIfS ?_ | refine wIf ?_ | refine wAnd ?_ | refine wOr ?_ | refine wNot ?_ | refine wAndV ?_ | refine wOrV ?_ | refine wNotV ?_ | refine wTup ?_ | refine wLst ?_ | refine wLstF ?_ | refine wSl ?_ | refine wNoPart ?_ | refine wPart ?_ | refine wBM ?_ | refine wSub ?_ | refine wFor ?_ | refine wIterL ?_ | refine wRng1 ?_ | refine wZip ?_ | refine wLc ?_ | refine wLcF ?_ | refine wYes ?_ | refine wAddI ?_ | refine wIntT ?_ | refine wInt1 ?_ | refine wInt2 ?_ | refine wNext ?_)))
    refine wIx a (seqOf_ref put_same) (ref_get hra) rfl ?_
    (repeat (with_reducible (first | refine wSeq ?_ | refine wAsg ?_ | refine wRet ?_ | refine wDrop ?_ | refine wName ?_ | (apply wVar; (case h => with_unfolding_all rfl)) | refine wC ?_ | refine wOp ?_ | refine wUn ?_ | refine wNil ?_ | refine wCons ?_ | refine wCB ?_ | refine wCall ?_ | refine wTest ?_ | refine wBool ?_ | refine wInt ?_ | refine wIfS ?_ | refine wIf ?_ | refine wAnd ?_ | refine wOr ?_ | refine wNot ?_ | refine wAndV ?_ | refine wOrV ?_ | refine wNotV ?_ | refine wTup ?_ | refine wLst ?_ | refine wLstF ?_ | refine wSl ?_ | refine wNoPart ?_ | refine wPart ?_ | refine wBM ?_ | refine wSub ?_ | refine wFor ?_ | refine wIterL ?_ | refine wRng1 ?_ | refine wZip ?_ | refine wLc ?_ | refine wLcF ?_ | refine wYes ?_ | refine wAddI ?_ | refine wIntT ?_ | refine wInt1 ?_ | refine wInt2 ?_ | refine wNext ?_)))
    refine wIx b (seqOf_ref put_same) (ref_get hrb) rfl ?_
    (repeat (with_reducible (first | refine wSeq ?_ | refine wAsg ?_ | refine wRet ?_ | refine wDrop ?_ | refine wName ?_ | (apply wVar; (case h => with_unfolding_all rfl)) | refine wC ?_ | refine wOp ?_ | refine wUn ?_ | refine wNil ?_ | refine wCons ?_ | refine wCB ?_ | refine wCall ?_ | refine wTest ?_ | refine wBool ?_ | refine wInt ?_ | refine wIfS ?_ | refine wIf ?_ | refine wAnd ?_ | refine wOr ?_ | refine wNot ?_ | refine wAndV ?_ | refine wOrV ?_ | refine wNotV ?_ | refine wTup ?_ | refine wLst ?_ | refine wLstF ?_ | refine wSl ?_ | refine wNoPart ?_ | refine wPart ?_ | refine wBM ?_ | refine wSub ?_ | refine wFor ?_ | refine wIterL ?_ | refine wRng1 ?_ | refine wZip ?_ | refine wLc ?_ | refine wLcF ?_ | refine wYes ?_ | refine wAddI ?_ | refine wIntT ?_ | refine wInt1 ?_ | refine wInt2 ?_ | refine wNext ?_)))
    refine ⟨.ref ra0, .ref rb0, _, _, rfl, listOf_ref (by rw [put_ne na]; exact era), listOf_ref (by rw [put_ne nb]; exact erb), by omega, by omega, fun v hv => by rw [oka.2 v hv]; omega, fun v hv => by rw [okb.2 v hv]; omega, fun r hr => ?_⟩
    have rz : r ≠ z := fun e => by rw [e, put_same] at hr; cases hr
    have hr' : M r = none := by rw [put_ne rz] at hr; exact hr
    have nr : r ∉ refs := fun e => known e hr'
    have nra : ra0 ≠ r := Ext.ne hr' era
    have nrb : rb0 ≠ r := Ext.ne hr' erb
    (repeat (with_reducible (first | refine wSeq ?_ | refine wAsg ?_ | refine wRet ?_ | refine wDrop ?_ | refine wName ?_ | (apply wVar; (case h => with_unfolding_all rfl)) | refine wC ?_ | refine wOp ?_ | refine wUn ?_ | refine wNil ?_ | refine wCons ?_ | refine wCB ?_ | refine wCall ?_ | refine wTest ?_ | refine wBool ?_ | refine wInt ?_ | refine wIfS ?_ | refine wIf ?_ | refine wAnd ?_ | refine wOr ?_ | refine wNot ?_ | refine wAndV ?_ | refine wOrV ?_ | refine wNotV ?_ | refine wTup ?_ | refine wLst ?_ | refine wLstF ?_ | refine wSl ?_ | refine wNoPart ?_ | refine wPart ?_ | refine wBM ?_ | refine wSub ?_ | refine wFor ?_ | refine wIterL ?_ | refine wRng1 ?_ | refine wZip ?_ | refine wLc ?_ | refine wLcF ?_ | refine wYes ?_ | refine wAddI ?_ | refine wIntT ?_ | refine wInt1 ?_ | refine wInt2 ?_ | refine wNext ?_)))
    refine wIx a (seqOf_ref (by rw [put_ne rz.symm, put_same])) (ref_get hra) rfl ?_
    (repeat (with_reducible (first | refine wSeq ?_ | refine wAsg ?_ | refine wRet ?_ | refine wDrop ?_ | refine wName ?_ | (apply wVar; (case h => with_unfolding_all rfl)) | refine wC ?_ | refine wOp ?_ | refine wUn ?_ | refine wNil ?_ | refine wCons ?_ | refine wCB ?_ | refine wCall ?_ | refine wTest ?_ | refine wBool ?_ | refine wInt ?_ | refine wIfS ?_ | refine wIf ?_ | refine wAnd ?_ | refine wOr ?_ | refine wNot ?_ | refine wAndV ?_ | refine wOrV ?_ | refine wNotV ?_ | refine wTup ?_ | refine wLst ?_ | refine wLstF ?_ | refine wSl ?_ | refine wNoPart ?_ | refine wPart ?_ | refine wBM ?_ | refine wSub ?_ | refine wFor ?_ | refine wIterL ?_ | refine wRng1 ?_ | refine wZip ?_ | refine wLc ?_ | refine wLcF ?_ | refine wYes ?_ | refine wAddI ?_ | refine wIntT ?_ | refine wInt1 ?_ | refine wInt2 ?_ | refine wNext ?_)))
    refine wIx a (seqOf_ref (by rw [put_ne nra, put_ne na]; exact era)) (vec_at haa) rfl ?_
    (repeat (with_reducible (first | refine wSeq ?_ | refine wAsg ?_ | refine wRet ?_ | refine wDrop ?_ | refine wName ?_ | (apply wVar; (case h => with_unfolding_all rfl)) | refine wC ?_ | refine wOp ?_ | refine wUn ?_ | refine wNil ?_ | refine wCons ?_ | refine wCB ?_ | refine wCall ?_ | refine wTest ?_ | refine wBool ?_ | refine wInt ?_ | refine wIfS ?_ | refine wIf ?_ | refine wAnd ?_ | refine wOr ?_ | refine wNot ?_ | refine wAndV ?_ | refine wOrV ?_ | refine wNotV ?_ | refine wTup ?_ | refine wLst ?_ | refine wLstF ?_ | refine wSl ?_ | refine wNoPart ?_ | refine wPart ?_ | refine wBM ?_ | refine wSub ?_ | refine wFor ?_ | refine wIterL ?_ | refine wRng1 ?_ | refine wZip ?_ | refine wLc ?_ | refine wLcF ?_ | refine wYes ?_ | refine wAddI ?_ | refine wIntT ?_ | refine wInt1 ?_ | refine wInt2 ?_ | refine wNext ?_)))
    refine wIx b (seqOf_ref (by rw [put_ne rz.symm, put_same])) (ref_get hrb) rfl ?_
    (repeat (with_reducible (first | refine wSeq ?_ | refine wAsg ?_ | refine wRet ?_ | refine wDrop ?_ | refine wName ?_ | (apply wVar; (case h => with_unfolding_all rfl)) | refine wC ?_ | refine wOp ?_ | refine wUn ?_ | refine wNil ?_ | refine wCons ?_ | refine wCB ?_ | refine wCall ?_ | refine wTest ?_ | refine wBool ?_ | refine wInt ?_ | refine wIfS ?_ | refine wIf ?_ | refine wAnd ?_ | refine wOr ?_ | refine wNot ?_ | refine wAndV ?_ | refine wOrV ?_ | refine wNotV ?_ | refine wTup ?_ | refine wLst ?_ | refine wLstF ?_ | refine wSl ?_ | refine wNoPart ?_ | refine wPart ?_ | refine wBM ?_ | refine wSub ?_ | refine wFor ?_ | refine wIterL ?_ | refine wRng1 ?_ | refine wZip ?_ | refine wLc ?_ | refine wLcF ?_ | refine wYes ?_ | refine wAddI ?_ | refine wIntT ?_ | refine wInt1 ?_ | refine wInt2 ?_ | refine wNext ?_)))
    refine wIx b (seqOf_ref (by rw [put_ne nrb, put_ne nb]; exact erb)) (vec_at hbb) rfl ?_
    (repeat (with_reducible (first | refine wSeq ?_ | refine wAsg ?_ | refine wRet ?_ | refine wDrop ?_ | refine wName ?_ | (apply wVar; (case h => with_unfolding_all rfl)) | refine wC ?_ | refine wOp ?_ | refine wUn ?_ | refine wNil ?_ | refine wCons ?_ | refine wCB ?_ | refine wCall ?_ | refine wTest ?_ | refine wBool ?_ | refine wInt ?_ | refine wIfS ?_ | refine wIf ?_ | refine wAnd ?_ | refine wOr ?_ | refine wNot ?_ | refine wAndV ?_ | refine wOrV ?_ | refine wNotV ?_ | refine wTup ?_ | refine wLst ?_ | refine wLstF ?_ | refine wSl ?_ | refine wNoPart ?_ | refine wPart ?_ | refine wBM ?_ | refine wSub ?_ | refine wFor ?_ | refine wIterL ?_ | refine wRng1 ?_ | refine wZip ?_ | refine wLc ?_ | refine wLcF ?_ | refine wYes ?_ | refine wAddI ?_ | refine wIntT ?_ | refine wInt1 ?_ | refine wInt2 ?_ | refine wNext ?_)))
    refine ⟨_, _, rfl, by omega, by omega, ?_⟩
    (repeat (with_reducible (first | refine wSeq ?_ | refine wAsg ?_ | refine wRet ?_ | refine wDrop ?_ | refine wName ?_ | (apply wVar; (case h => with_unfolding_all rfl)) | refine wC ?_ | refine wOp ?_ | refine wUn ?_ | refine wNil ?_ | refine wCons ?_ | refine wCB ?_ | refine wCall ?_ | refine wTest ?_ | refine wBool ?_ | refine wInt ?_ | refine wIfS ?_ | refine wIf ?_ | refine wAnd ?_ | refine wOr ?_ | refine wNot ?_ | refine wAndV ?_ | refine wOrV ?_ | refine wNotV ?_ | refine wTup ?_ | refine wLst ?_ | refine wLstF ?_ | refine wSl ?_ | refine wNoPart ?_ | refine wPart ?_ | refine wBM ?_ | refine wSub ?_ | refine wFor ?_ | refine wIterL ?_ | refine wRng1 ?_ | refine wZip ?_ | refine wLc ?_ | refine wLcF ?_ | refine wYes ?_ | refine wAddI ?_ | refine wIntT ?_ | refine wInt1 ?_ | refine wInt2 ?_ | refine wNext ?_)))
    have jl := joinedS_ok oka okb
    refine wSetL b rfl put_same (by rw [List.length_map, jl.1]; exact hb) rfl ?_
    (repeat (with_reducible (first | refine wSeq ?_ | refine wAsg ?_ | refine wRet ?_ | refine wDrop ?_ | refine wName ?_ | (apply wVar; (case h => with_unfolding_all rfl)) | refine wC ?_ | refine wOp ?_ | refine wUn ?_ | refine wNil ?_ | refine wCons ?_ | refine wCB ?_ | refine wCall ?_ | refine wTest ?_ | refine wBool ?_ | refine wInt ?_ | refine wIfS ?_ | refine wIf ?_ | refine wAnd ?_ | refine wOr ?_ | refine wNot ?_ | refine wAndV ?_ | refine wOrV ?_ | refine wNotV ?_ | refine wTup ?_ | refine wLst ?_ | refine wLstF ?_ | refine wSl ?_ | refine wNoPart ?_ | refine wPart ?_ | refine wBM ?_ | refine wSub ?_ | refine wFor ?_ | refine wIterL ?_ | refine wRng1 ?_ | refine wZip ?_ | refine wLc ?_ | refine wLcF ?_ | refine wYes ?_ | refine wAddI ?_ | refine wIntT ?_ | refine wInt1 ?_ | refine wInt2 ?_ | refine wNext ?_)))
    refine wIx 0 (d := .d (.str "tell")) seqOf_tup rfl rfl ?_
    (repeat (with_reducible (first | refine wSeq ?_ | refine wAsg ?_ | refine wRet ?_ | refine wDrop ?_ | refine wName ?_ | (apply wVar; (case h => with_unfolding_all rfl)) | refine wC ?_ | refine wOp ?_ | refine wUn ?_ | refine wNil ?_ | refine wCons ?_ | refine wCB ?_ | refine wCall ?_ | refine wTest ?_ | refine wBool ?_ | refine wInt ?_ | refine wIfS ?_ | refine wIf ?_ | refine wAnd ?_ | refine wOr ?_ | refine wNot ?_ | refine wAndV ?_ | refine wOrV ?_ | refine wNotV ?_ | refine wTup ?_ | refine wLst ?_ | refine wLstF ?_ | refine wSl ?_ | refine wNoPart ?_ | refine wPart ?_ | refine wBM ?_ | refine wSub ?_ | refine wFor ?_ | refine wIterL ?_ | refine wRng1 ?_ | refine wZip ?_ | refine wLc ?_ | refine wLcF ?_ | refine wYes ?_ | refine wAddI ?_ | refine wIntT ?_ | refine wInt1 ?_ | refine wInt2 ?_ | refine wNext ?_)))
    refine wEqS ?_
    (repeat (with_reducible (first | refine wSeq ?_ | refine wAsg ?_ | refine wRet ?_ | refine wDrop ?_ | refine wName ?_ | (apply wVar; (case h => with_unfolding_all rfl)) | refine wC ?_ | refine wOp ?_ | refine wUn ?_ | refine wNil ?_ | refine wCons ?_ | refine wCB ?_ | refine wCall ?_ | refine wTest ?_ | refine wBool ?_ | refine wInt ?_ | refine wIfS ?_ | refine wIf ?_ | refine wAnd ?_ | refine wOr ?_ | refine wNot ?_ | refine wAndV ?_ | refine wOrV ?_ | refine wNotV ?_ | refine wTup ?_ | refine wLst ?_ | refine wLstF ?_ | refine wSl ?_ | refine wNoPart ?_ | refine wPart ?_ | refine wBM ?_ | refine wSub ?_ | refine wFor ?_ | refine wIterL ?_ | refine wRng1 ?_ | refine wZip ?_ | refine wLc ?_ | refine wLcF ?_ | refine wYes ?_ | refine wAddI ?_ | refine wIntT ?_ | refine wInt1 ?_ | refine wInt2 ?_ | refine wNext ?_)))
    rw [put_put, map_set_vec]
    rw [if_neg (by simp only [decide_eq_true_eq]; exact sim_make.2.2.2.1)]
    (repeat (with_reducible (first | refine wSeq ?_ | refine wAsg ?_ | refine wRet ?_ | refine wDrop ?_ | refine wName ?_ | (apply wVar; (case h => with_unfolding_all rfl)) | refine wC ?_ | refine wOp ?_ | refine wUn ?_ | refine wNil ?_ | refine wCons ?_ | refine wCB ?_ | refine wCall ?_ | refine wTest ?_ | refine wBool ?_ | refine wInt ?_ | refine wIfS ?_ | refine wIf ?_ | refine wAnd ?_ | refine wOr ?_ | refine wNot ?_ | refine wAndV ?_ | refine wOrV ?_ | refine wNotV ?_ | refine wTup ?_ | refine wLst ?_ | refine wLstF ?_ | refine wSl ?_ | refine wNoPart ?_ | refine wPart ?_ | refine wBM ?_ | refine wSub ?_ | refine wFor ?_ | refine wIterL ?_ | refine wRng1 ?_ | refine wZip ?_ | refine wLc ?_ | refine wLcF ?_ | refine wYes ?_ | refine wAddI ?_ | refine wIntT ?_ | refine wInt1 ?_ | refine wInt2 ?_ | refine wNext ?_)))
    refine wSetL b rfl (by rw [put_ne rz.symm, put_same]) (by simp [rlen]; exact hb) rfl ?_
    (repeat (with_reducible (first | refine wSeq ?_ | refine wAsg ?_ | refine wRet ?_ | refine wDrop ?_ | refine wName ?_ | (apply wVar; (case h => with_unfolding_all rfl)) | refine wC ?_ | refine wOp ?_ | refine wUn ?_ | refine wNil ?_ | refine wCons ?_ | refine wCB ?_ | refine wCall ?_ | refine wTest ?_ | refine wBool ?_ | refine wInt ?_ | refine wIfS ?_ | refine wIf ?_ | refine wAnd ?_ | refine wOr ?_ | refine wNot ?_ | refine wAndV ?_ | refine wOrV ?_ | refine wNotV ?_ | refine wTup ?_ | refine wLst ?_ | refine wLstF ?_ | refine wSl ?_ | refine wNoPart ?_ | refine wPart ?_ | refine wBM ?_ | refine wSub ?_ | refine wFor ?_ | refine wIterL ?_ | refine wRng1 ?_ | refine wZip ?_ | refine wLc ?_ | refine wLcF ?_ | refine wYes ?_ | refine wAddI ?_ | refine wIntT ?_ | refine wInt1 ?_ | refine wInt2 ?_ | refine wNext ?_)))
    rw [map_set_ref, put_comm rz, put_put]
    refine q z (refs.set b r) _ ?_ hz ?_ ?_
    · exact (Ext.new hz _).trans (Ext.new (by rw [put_ne rz]; exact hr') _)
    · have o := ra.o.set (M' := put (put M z (.lst ((refs.set b r).map .ref))) r (.lst (((joinedS (F.getD a []) (F.getD b [])).set b (joinV (at2 F a a) (at2 F b b))).map vecV))) (r := r) (s := (joinedS (F.getD a []) (F.getD b [])).set b (joinV (at2 F a a) (at2 F b b))) b ?_ nr put_same
      · refine ⟨by rw [put_ne rz.symm, put_same], o.len, o.nd, o.row, fun e => ?_⟩
        rcases List.mem_or_eq_of_mem_set e with c | c
        · exact nz c
        · exact rz c.symm
      · intro i x hx ic
        have hx' := List.mem_of_getElem? hx
        rw [put_ne fun e => nr (by rw [← e]; exact hx'), put_ne fun e => nz (by rw [← e]; exact hx')]
    · intro x hx
      rcases List.mem_or_eq_of_mem_set hx with c | c
      · exact .inl c
      · exact .inr (by rw [c]; exact hr')
  | meet a b =>
    obtain ⟨ha, hb, nab⟩ := ok
    obtain ⟨ra0, hra, era⟩ := refAt a ha
    obtain ⟨rb0, hrb, erb⟩ := refAt b hb
    have na : ra0 ≠ z := Ext.ne hz era
    have nb : rb0 ≠ z := Ext.ne hz erb
    obtain ⟨haa, haal⟩ := sq.at2 ha ha
    obtain ⟨hbb, hbbl⟩ := sq.at2 hb hb
    have oka := sq.rowOk ha
    have okb := sq.rowOk hb
    have nz : z ∉ refs := fun e => known e hz
    refine wIx 1 (d := .d (.int a)) seqOf_tup rfl rfl ?_
    (repeat (with_reducible (first | refine wSeq ?_ | refine wAsg ?_ | refine wRet ?_ | refine wDrop ?_ | refine wName ?_ | (apply wVar; (case h => with_unfolding_all rfl)) | refine wC ?_ | refine wOp ?_ | refine wUn ?_ | refine wNil ?_ | refine wCons ?_ | refine wCB ?_ | refine wCall ?_ | refine wTest ?_ | refine wBool ?_ | refine wInt ?_ | refine wIfS ?_ | refine wIf ?_ | refine wAnd ?_ | refine wOr ?_ | refine wNot ?_ | refine wAndV ?_ | refine wOrV ?_ | refine wNotV ?_ | refine wTup ?_ | refine wLst ?_ | refine wLstF ?_ | refine wSl ?_ | refine wNoPart ?_ | refine wPart ?_ | refine wBM ?_ | refine wSub ?_ | refine wFor ?_ | refine wIterL ?_ | refine wRng1 ?_ | refine wZip ?_ | refine wLc ?_ | refine wLcF ?_ | refine wYes ?_ | refine wAddI ?_ | refine wIntT ?_ | refine wInt1 ?_ | refine wInt2 ?_ | refine wNext ?_)))
    refine wIx 0 (d := .d (.str "meet")) seqOf_tup rfl rfl ?_
    (repeat (with_reducible (first | refine wSeq ?_ | refine wAsg ?_ | refine wRet ?_ | refine wDrop ?_ | refine wName ?_ | (apply wVar; (case h => with_unfolding_all rfl)) | refine wC ?_ | refine wOp ?_ | refine wUn ?_ | refine wNil ?_ | refine wCons ?_ | refine wCB ?_ | refine wCall ?_ | refine wTest ?_ | refine wBool ?_ | refine wInt ?_ | refine wIfS ?_ | refine wIf ?_ | refine wAnd ?_ | refine wOr ?_ | refine wNot ?_ | refine wAndV ?_ | refine wOrV ?_ | refine wNotV ?_ | refine wTup ?_ | refine wLst ?_ | refine wLstF ?_ | refine wSl ?_ | refine wNoPart ?_ | refine wPart ?_ | refine wBM ?_ | refine wSub ?_ | refine wFor ?_ | refine wIterL ?_ | refine wRng1 ?_ | refine wZip ?_ | refine wLc ?_ | refine wLcF ?_ | refine wYes ?_ | refine wAddI ?_ | refine wIntT ?_ | refine wInt1 ?_ | refine wInt2 ?_ | refine wNext ?_)))
    refine wEqS ?_
    (repeat (with_reducible (first | refine wSeq ?_ | refine wAsg ?_ | refine wRet ?_ | refine wDrop ?_ | refine wName ?_ | (apply wVar; (case h => with_unfolding_all rfl)) | refine wC ?_ | refine wOp ?_ | refine wUn ?_ | refine wNil ?_ | refine wCons ?_ | refine wCB ?_ | refine wCall ?_ | refine wTest ?_ | refine wBool ?_ | refine wInt ?_ | refine wIfS ?_ | refine wIf ?_ | refine wAnd ?_ | refine wOr ?_ | refine wNot ?_ | refine wAndV ?_ | refine wOrV ?_ | refine wNotV ?_ | refine wTup ?_ | refine wLst ?_ | refine wLstF ?_ | refine wSl ?_ | refine wNoPart ?_ | refine wPart ?_ | refine wBM ?_ | refine wSub ?_ | refine wFor ?_ | refine wIterL ?_ | refine wRng1 ?_ | refine wZip ?_ | refine wLc ?_ | refine wLcF ?_ | refine wYes ?_ | refine wAddI ?_ | refine wIntT ?_ | refine wInt1 ?_ | refine wInt2 ?_ | refine wNext ?_)))
    rw [if_neg (by simp only [decide_eq_true_eq]; exact sim_make.2.2.2.2.1)]
    (repeat (with_reducible (first | refine wSeq ?_ | refine wAsg ?_ | refine wRet ?_ | refine wDrop ?_ | refine wName ?_ | (apply wVar; (case h => with_unfolding_all rfl)) | refine wC ?_ | refine wOp ?_ | refine wUn ?_ | refine wNil ?_ | refine wCons ?_ | refine wCB ?_ | refine wCall ?_ | refine wTest ?_ | refine wBool ?_ | refine wInt ?_ | refine wIfS ?_ | refine wIf ?_ | refine wAnd ?_ | refine wOr ?_ | refine wNot ?_ | refine wAndV ?_ | refine wOrV ?_ | refine wNotV ?_ | refine wTup ?_ | refine wLst ?_ | refine wLstF ?_ | refine wSl ?_ | refine wNoPart ?_ | refine wPart ?_ | refine wBM ?_ | refine wSub ?_ | refine wFor ?_ | refine wIterL ?_ | refine wRng1 ?_ | refine wZip ?_ | refine wLc ?_ | refine wLcF ?_ | refine wYes ?_ | refine wAddI ?_ | refine wIntT ?_ | refine wInt1 ?_ | refine wInt2 ?_ | refine wNext ?_)))
    refine wIx 2 (d := .d (.int b)) seqOf_tup rfl rfl ?_
    (repeat (with_reducible (first | refine wSeq ?_ | refine wAsg ?_ | refine wRet ?_ | refine wDrop ?_ | refine wName ?_ | (apply wVar; (case h => with_unfolding_all rfl)) | refine wC ?_ | refine wOp ?_ | refine wUn ?_ | refine wNil ?_ | refine wCons ?_ | refine wCB ?_ | refine wCall ?_ | refine wTest ?_ | refine wBool ?_ | refine wInt ?_ | refine wIfS ?_ | refine wIf ?_ | refine wAnd ?_ | refine wOr ?_ | refine wNot ?_ | refine wAndV ?_ | refine wOrV ?_ | refine wNotV ?_ | refine wTup ?_ | refine wLst ?_ | refine wLstF ?_ | refine wSl ?_ | refine wNoPart ?_ | refine wPart ?_ | refine wBM ?_ | refine wSub ?_ | refine wFor ?_ | refine wIterL ?_ | refine wRng1 ?_ | refine wZip ?_ | refine wLc ?_ | refine wLcF ?_ | refine wYes ?_ | refine wAddI ?_ | refine wIntT ?_ | refine wInt1 ?_ | refine wInt2 ?_ | refine wNext ?_)))
    refine wIx a (seqOf_ref put_same) (ref_get hra) rfl ?_
    (repeat (with_reducible (first | refine wSeq ?_ | refine wAsg ?_ | refine wRet ?_ | refine wDrop ?_ | refine wName ?_ | (apply wVar; (case h => with_unfolding_all rfl)) | refine wC ?_ | refine wOp ?_ | refine wUn ?_ | refine wNil ?_ | refine wCons ?_ | refine wCB ?_ | refine wCall ?_ | refine wTest ?_ | refine wBool ?_ | refine wInt ?_ | refine wIfS ?_ | refine wIf ?_ | refine wAnd ?_ | refine wOr ?_ | refine wNot ?_ | refine wAndV ?_ | refine wOrV ?_ | refine wNotV ?_ | refine wTup ?_ | refine wLst ?_ | refine wLstF ?_ | refine wSl ?_ | refine wNoPart ?_ | refine wPart ?_ | refine wBM ?_ | refine wSub ?_ | refine wFor ?_ | refine wIterL ?_ | refine wRng1 ?_ | refine wZip ?_ | refine wLc ?_ | refine wLcF ?_ | refine wYes ?_ | refine wAddI ?_ | refine wIntT ?_ | refine wInt1 ?_ | refine wInt2 ?_ | refine wNext ?_)))
    refine wIx b (seqOf_ref put_same) (ref_get hrb) rfl ?_
    (repeat (with_reducible (first | refine wSeq ?_ | refine wAsg ?_ | refine wRet ?_ | refine wDrop ?_ | refine wName ?_ | (apply wVar; (case h => with_unfolding_all rfl)) | refine wC ?_ | refine wOp ?_ | refine wUn ?_ | refine wNil ?_ | refine wCons ?_ | refine wCB ?_ | refine wCall ?_ | refine wTest ?_ | refine wBool ?_ | refine wInt ?_ | refine wIfS ?_ | refine wIf ?_ | refine wAnd ?_ | refine wOr ?_ | refine wNot ?_ | refine wAndV ?_ | refine wOrV ?_ | refine wNotV ?_ | refine wTup ?_ | refine wLst ?_ | refine wLstF ?_ | refine wSl ?_ | refine wNoPart ?_ | refine wPart ?_ | refine wBM ?_ | refine wSub ?_ | refine wFor ?_ | refine wIterL ?_ | refine wRng1 ?_ | refine wZip ?_ | refine wLc ?_ | refine wLcF ?_ | refine wYes ?_ | refine wAddI ?_ | refine wIntT ?_ | refine wInt1 ?_ | refine wInt2 ?_ | refine wNext ?_)))
    refine ⟨.ref ra0, .ref rb0, _, _, rfl, listOf_ref (by rw [put_ne na]; exact era), listOf_ref (by rw [put_ne nb]; exact erb), by omega, by omega, fun v hv => by rw [oka.2 v hv]; omega, fun v hv => by rw [okb.2 v hv]; omega, fun r hr => ?_⟩
    have rz : r ≠ z := fun e => by rw [e, put_same] at hr; cases hr
    have hr' : M r = none := by rw [put_ne rz] at hr; exact hr
    have nr : r ∉ refs := fun e => known e hr'
    have nra : ra0 ≠ r := Ext.ne hr' era
    have nrb : rb0 ≠ r := Ext.ne hr' erb
    (repeat (with_reducible (first | refine wSeq ?_ | refine wAsg ?_ | refine wRet ?_ | refine wDrop ?_ | refine wName ?_ | (apply wVar; (case h => with_unfolding_all rfl)) | refine wC ?_ | refine wOp ?_ | refine wUn ?_ | refine wNil ?_ | refine wCons ?_ | refine wCB ?_ | refine wCall ?_ | refine wTest ?_ | refine wBool ?_ | refine wInt ?_ | refine wIfS ?_ | refine wIf ?_ | refine wAnd ?_ | refine wOr ?_ | refine wNot ?_ | refine wAndV ?_ | refine wOrV ?_ | refine wNotV ?_ | refine wTup ?_ | refine wLst ?_ | refine wLstF ?_ | refine wSl ?_ | refine wNoPart ?_ | refine wPart ?_ | refine wBM ?_ | refine wSub ?_ | refine wFor ?_ | refine wIterL ?_ | refine wRng1 ?_ | refine wZip ?_ | refine wLc ?_ | refine wLcF ?_ | refine wYes ?_ | refine wAddI ?_ | refine wIntT ?_ | refine wInt1 ?_ | refine wInt2 ?_ | refine wNext ?_)))
    refine wIx a (seqOf_ref (by rw [put_ne rz.symm, put_same])) (ref_get hra) rfl ?_
    (repeat (with_reducible (first | refine wSeq ?_ | refine wAsg ?_ | refine wRet ?_ | refine wDrop ?_ | refine wName ?_ | (apply wVar; (case h => with_unfolding_all rfl)) | refine wC ?_ | refine wOp ?_ | refine wUn ?_ | refine wNil ?_ | refine wCons ?_ | refine wCB ?_ | refine wCall ?_ | refine wTest ?_ | refine wBool ?_ | refine wInt ?_ | refine wIfS ?_ | refine wIf ?_ | refine wAnd ?_ | refine wOr ?_ | refine wNot ?_ | refine wAndV ?_ | refine wOrV ?_ | refine wNotV ?_ | refine wTup ?_ | refine wLst ?_ | refine wLstF ?_ | refine wSl ?_ | refine wNoPart ?_ | refine wPart ?_ | refine wBM ?_ | refine wSub ?_ | refine wFor ?_ | refine wIterL ?_ | refine wRng1 ?_ | refine wZip ?_ | refine wLc ?_ | refine wLcF ?_ | refine wYes ?_ | refine wAddI ?_ | refine wIntT ?_ | refine wInt1 ?_ | refine wInt2 ?_ | refine wNext ?_)))
    refine wIx a (seqOf_ref (by rw [put_ne nra, put_ne na]; exact era)) (vec_at haa) rfl ?_
    (repeat (with_reducible (first | refine wSeq ?_ | refine wAsg ?_ | refine wRet ?_ | refine wDrop ?_ | refine wName ?_ | (apply wVar; (case h => with_unfolding_all rfl)) | refine wC ?_ | refine wOp ?_ | refine wUn ?_ | refine wNil ?_ | refine wCons ?_ | refine wCB ?_ | refine wCall ?_ | refine wTest ?_ | refine wBool ?_ | refine wInt ?_ | refine wIfS ?_ | refine wIf ?_ | refine wAnd ?_ | refine wOr ?_ | refine wNot ?_ | refine wAndV ?_ | refine wOrV ?_ | refine wNotV ?_ | refine wTup ?_ | refine wLst ?_ | refine wLstF ?_ | refine wSl ?_ | refine wNoPart ?_ | refine wPart ?_ | refine wBM ?_ | refine wSub ?_ | refine wFor ?_ | refine wIterL ?_ | refine wRng1 ?_ | refine wZip ?_ | refine wLc ?_ | refine wLcF ?_ | refine wYes ?_ | refine wAddI ?_ | refine wIntT ?_ | refine wInt1 ?_ | refine wInt2 ?_ | refine wNext ?_)))
    refine wIx b (seqOf_ref (by rw [put_ne rz.symm, put_same])) (ref_get hrb) rfl ?_
    (repeat (with_reducible (first | refine wSeq ?_ | refine wAsg ?_ | refine wRet ?_ | refine wDrop ?_ | refine wName ?_ | (apply wVar; (case h => with_unfolding_all rfl)) | refine wC ?_ | refine wOp ?_ | refine wUn ?_ | refine wNil ?_ | refine wCons ?_ | refine wCB ?_ | refine wCall ?_ | refine wTest ?_ | refine wBool ?_ | refine wInt ?_ | refine wIfS ?_ | refine wIf ?_ | refine wAnd ?_ | refine wOr ?_ | refine wNot ?_ | refine wAndV ?_ | refine wOrV ?_ | refine wNotV ?_ | refine wTup ?_ | refine wLst ?_ | refine wLstF ?_ | refine wSl ?_ | refine wNoPart ?_ | refine wPart ?_ | refine wBM ?_ | refine wSub ?_ | refine wFor ?_ | refine wIterL ?_ | refine wRng1 ?_ | refine wZip ?_ | refine wLc ?_ | refine wLcF ?_ | refine wYes ?_ | refine wAddI ?_ | refine wIntT ?_ | refine wInt1 ?_ | refine wInt2 ?_ | refine wNext ?_)))
    refine wIx b (seqOf_ref (by rw [put_ne nrb, put_ne nb]; exact erb)) (vec_at hbb) rfl ?_
    (repeat (with_reducible (first | refine wSeq ?_ | refine wAsg ?_ | refine wRet ?_ | refine wDrop ?_ | refine wName ?_ | (apply wVar; (case h => with_unfolding_all rfl)) | refine wC ?_ | refine wOp ?_ | refine wUn ?_ | refine wNil ?_ | refine wCons ?_ | refine wCB ?_ | refine wCall ?_ | refine wTest ?_ | refine wBool ?_ | refine wInt ?_ | refine wIfS ?_ | refine wIf ?_ | refine wAnd ?_ | refine wOr ?_ | refine wNot ?_ | refine wAndV ?_ | refine wOrV ?_ | refine wNotV ?_ | refine wTup ?_ | refine wLst ?_ | refine wLstF ?_ | refine wSl ?_ | refine wNoPart ?_ | refine wPart ?_ | refine wBM ?_ | refine wSub ?_ | refine wFor ?_ | refine wIterL ?_ | refine wRng1 ?_ | refine wZip ?_ | refine wLc ?_ | refine wLcF ?_ | refine wYes ?_ | refine wAddI ?_ | refine wIntT ?_ | refine wInt1 ?_ | refine wInt2 ?_ | refine wNext ?_)))
    refine ⟨_, _, rfl, by omega, by omega, ?_⟩
    (repeat (with_reducible (first | refine wSeq ?_ | refine wAsg ?_ | refine wRet ?_ | refine wDrop ?_ | refine wName ?_ | (apply wVar; (case h => with_unfolding_all rfl)) | refine wC ?_ | refine wOp ?_ | refine wUn ?_ | refine wNil ?_ | refine wCons ?_ | refine wCB ?_ | refine wCall ?_ | refine wTest ?_ | refine wBool ?_ | refine wInt ?_ | refine wIfS ?_ | refine wIf ?_ | refine wAnd ?_ | refine wOr ?_ | refine wNot ?_ | refine wAndV ?_ | refine wOrV ?_ | refine wNotV ?_ | refine wTup ?_ | refine wLst ?_ | refine wLstF ?_ | refine wSl ?_ | refine wNoPart ?_ | refine wPart ?_ | refine wBM ?_ | refine wSub ?_ | refine wFor ?_ | refine wIterL ?_ | refine wRng1 ?_ | refine wZip ?_ | refine wLc ?_ | refine wLcF ?_ | refine wYes ?_ | refine wAddI ?_ | refine wIntT ?_ | refine wInt1 ?_ | refine wInt2 ?_ | refine wNext ?_)))
    have jl := joinedS_ok oka okb
    refine wSetL b rfl put_same (by rw [List.length_map, jl.1]; exact hb) rfl ?_
    (repeat (with_reducible (first | refine wSeq ?_ | refine wAsg ?_ | refine wRet ?_ | refine wDrop ?_ | refine wName ?_ | (apply wVar; (case h => with_unfolding_all rfl)) | refine wC ?_ | refine wOp ?_ | refine wUn ?_ | refine wNil ?_ | refine wCons ?_ | refine wCB ?_ | refine wCall ?_ | refine wTest ?_ | refine wBool ?_ | refine wInt ?_ | refine wIfS ?_ | refine wIf ?_ | refine wAnd ?_ | refine wOr ?_ | refine wNot ?_ | refine wAndV ?_ | refine wOrV ?_ | refine wNotV ?_ | refine wTup ?_ | refine wLst ?_ | refine wLstF ?_ | refine wSl ?_ | refine wNoPart ?_ | refine wPart ?_ | refine wBM ?_ | refine wSub ?_ | refine wFor ?_ | refine wIterL ?_ | refine wRng1 ?_ | refine wZip ?_ | refine wLc ?_ | refine wLcF ?_ | refine wYes ?_ | refine wAddI ?_ | refine wIntT ?_ | refine wInt1 ?_ | refine wInt2 ?_ | refine wNext ?_)))
    refine wIx 0 (d := .d (.str "meet")) seqOf_tup rfl rfl ?_
    (repeat (with_reducible (first | refine wSeq ?_ | refine wAsg ?_ | refine wRet ?_ | refine wDrop ?_ | refine wName ?_ | (apply wVar; (case h => with_unfolding_all rfl)) | refine wC ?_ | refine wOp ?_ | refine wUn ?_ | refine wNil ?_ | refine wCons ?_ | refine wCB ?_ | refine wCall ?_ | refine wTest ?_ | refine wBool ?_ | refine wInt ?_ | refine wIfS ?_ | refine wIf ?_ | refine wAnd ?_ | refine wOr ?_ | refine wNot ?_ | refine wAndV ?_ | refine wOrV ?_ | refine wNotV ?_ | refine wTup ?_ | refine wLst ?_ | refine wLstF ?_ | refine wSl ?_ | refine wNoPart ?_ | refine wPart ?_ | refine wBM ?_ | refine wSub ?_ | refine wFor ?_ | refine wIterL ?_ | refine wRng1 ?_ | refine wZip ?_ | refine wLc ?_ | refine wLcF ?_ | refine wYes ?_ | refine wAddI ?_ | refine wIntT ?_ | refine wInt1 ?_ | refine wInt2 ?_ | refine wNext ?_)))
    refine wEqS ?_
    (repeat (with_reducible (first | refine wSeq ?_ | refine wAsg ?_ | refine wRet ?_ | refine wDrop ?_ | refine wName ?_ | (apply wVar; (case h => with_unfolding_all rfl)) | refine wC ?_ | refine wOp ?_ | refine wUn ?_ | refine wNil ?_ | refine wCons ?_ | refine wCB ?_ | refine wCall ?_ | refine wTest ?_ | refine wBool ?_ | refine wInt ?_ | refine wIfS ?_ | refine wIf ?_ | refine wAnd ?_ | refine wOr ?_ | refine wNot ?_ | refine wAndV ?_ | refine wOrV ?_ | refine wNotV ?_ | refine wTup ?_ | refine wLst ?_ | refine wLstF ?_ | refine wSl ?_ | refine wNoPart ?_ | refine wPart ?_ | refine wBM ?_ | refine wSub ?_ | refine wFor ?_ | refine wIterL ?_ | refine wRng1 ?_ | refine wZip ?_ | refine wLc ?_ | refine wLcF ?_ | refine wYes ?_ | refine wAddI ?_ | refine wIntT ?_ | refine wInt1 ?_ | refine wInt2 ?_ | refine wNext ?_)))
    rw [put_put, map_set_vec]
    rw [if_pos (by simp)]
    (repeat (with_reducible (first | refine wSeq ?_ | refine wAsg ?_ | refine wRet ?_ | refine wDrop ?_ | refine wName ?_ | (apply wVar; (case h => with_unfolding_all rfl)) | refine wC ?_ | refine wOp ?_ | refine wUn ?_ | refine wNil ?_ | refine wCons ?_ | refine wCB ?_ | refine wCall ?_ | refine wTest ?_ | refine wBool ?_ | refine wInt ?_ | refine wIfS ?_ | refine wIf ?_ | refine wAnd ?_ | refine wOr ?_ | refine wNot ?_ | refine wAndV ?_ | refine wOrV ?_ | refine wNotV ?_ | refine wTup ?_ | refine wLst ?_ | refine wLstF ?_ | refine wSl ?_ | refine wNoPart ?_ | refine wPart ?_ | refine wBM ?_ | refine wSub ?_ | refine wFor ?_ | refine wIterL ?_ | refine wRng1 ?_ | refine wZip ?_ | refine wLc ?_ | refine wLcF ?_ | refine wYes ?_ | refine wAddI ?_ | refine wIntT ?_ | refine wInt1 ?_ | refine wInt2 ?_ | refine wNext ?_)))
    have jl2 := sheet_set b jl (v := joinV (at2 F a a) (at2 F b b)) (by simp [joinV, haal, hbbl])
    refine wSetL a rfl put_same (by rw [List.length_map, jl2.1]; exact ha) rfl ?_
    (repeat (with_reducible (first | refine wSeq ?_ | refine wAsg ?_ | refine wRet ?_ | refine wDrop ?_ | refine wName ?_ | (apply wVar; (case h => with_unfolding_all rfl)) | refine wC ?_ | refine wOp ?_ | refine wUn ?_ | refine wNil ?_ | refine wCons ?_ | refine wCB ?_ | refine wCall ?_ | refine wTest ?_ | refine wBool ?_ | refine wInt ?_ | refine wIfS ?_ | refine wIf ?_ | refine wAnd ?_ | refine wOr ?_ | refine wNot ?_ | refine wAndV ?_ | refine wOrV ?_ | refine wNotV ?_ | refine wTup ?_ | refine wLst ?_ | refine wLstF ?_ | refine wSl ?_ | refine wNoPart ?_ | refine wPart ?_ | refine wBM ?_ | refine wSub ?_ | refine wFor ?_ | refine wIterL ?_ | refine wRng1 ?_ | refine wZip ?_ | refine wLc ?_ | refine wLcF ?_ | refine wYes ?_ | refine wAddI ?_ | refine wIntT ?_ | refine wInt1 ?_ | refine wInt2 ?_ | refine wNext ?_)))
    rw [put_put, map_set_vec]
    refine wList1 (seqOf_ref put_same) fun r1 hr1 => ?_
    have r1r : r1 ≠ r := fun e => by rw [e, put_same] at hr1; cases hr1
    have r1z : r1 ≠ z := fun e => by rw [e, put_ne rz.symm, put_same] at hr1; cases hr1
    have hr1' : M r1 = none := by rw [put_ne r1r, put_ne r1z] at hr1; exact hr1
    have nr1 : r1 ∉ refs := fun e => known e hr1'
    (repeat (with_reducible (first | refine wSeq ?_ | refine wAsg ?_ | refine wRet ?_ | refine wDrop ?_ | refine wName ?_ | (apply wVar; (case h => with_unfolding_all rfl)) | refine wC ?_ | refine wOp ?_ | refine wUn ?_ | refine wNil ?_ | refine wCons ?_ | refine wCB ?_ | refine wCall ?_ | refine wTest ?_ | refine wBool ?_ | refine wInt ?_ | refine wIfS ?_ | refine wIf ?_ | refine wAnd ?_ | refine wOr ?_ | refine wNot ?_ | refine wAndV ?_ | refine wOrV ?_ | refine wNotV ?_ | refine wTup ?_ | refine wLst ?_ | refine wLstF ?_ | refine wSl ?_ | refine wNoPart ?_ | refine wPart ?_ | refine wBM ?_ | refine wSub ?_ | refine wFor ?_ | refine wIterL ?_ | refine wRng1 ?_ | refine wZip ?_ | refine wLc ?_ | refine wLcF ?_ | refine wYes ?_ | refine wAddI ?_ | refine wIntT ?_ | refine wInt1 ?_ | refine wInt2 ?_ | refine wNext ?_)))
    refine wSetL a rfl (by rw [put_ne r1z.symm, put_ne rz.symm, put_same]) (by simp [rlen]; exact ha) rfl ?_
    (repeat (with_reducible (first | refine wSeq ?_ | refine wAsg ?_ | refine wRet ?_ | refine wDrop ?_ | refine wName ?_ | (apply wVar; (case h => with_unfolding_all rfl)) | refine wC ?_ | refine wOp ?_ | refine wUn ?_ | refine wNil ?_ | refine wCons ?_ | refine wCB ?_ | refine wCall ?_ | refine wTest ?_ | refine wBool ?_ | refine wInt ?_ | refine wIfS ?_ | refine wIf ?_ | refine wAnd ?_ | refine wOr ?_ | refine wNot ?_ | refine wAndV ?_ | refine wOrV ?_ | refine wNotV ?_ | refine wTup ?_ | refine wLst ?_ | refine wLstF ?_ | refine wSl ?_ | refine wNoPart ?_ | refine wPart ?_ | refine wBM ?_ | refine wSub ?_ | refine wFor ?_ | refine wIterL ?_ | refine wRng1 ?_ | refine wZip ?_ | refine wLc ?_ | refine wLcF ?_ | refine wYes ?_ | refine wAddI ?_ | refine wIntT ?_ | refine wInt1 ?_ | refine wInt2 ?_ | refine wNext ?_)))
    rw [map_set_ref]
    refine wSetL b rfl put_same (by simp [rlen]; exact hb) rfl ?_
    (repeat (with_reducible (first | refine wSeq ?_ | refine wAsg ?_ | refine wRet ?_ | refine wDrop ?_ | refine wName ?_ | (apply wVar; (case h => with_unfolding_all rfl)) | refine wC ?_ | refine wOp ?_ | refine wUn ?_ | refine wNil ?_ | refine wCons ?_ | refine wCB ?_ | refine wCall ?_ | refine wTest ?_ | refine wBool ?_ | refine wInt ?_ | refine wIfS ?_ | refine wIf ?_ | refine wAnd ?_ | refine wOr ?_ | refine wNot ?_ | refine wAndV ?_ | refine wOrV ?_ | refine wNotV ?_ | refine wTup ?_ | refine wLst ?_ | refine wLstF ?_ | refine wSl ?_ | refine wNoPart ?_ | refine wPart ?_ | refine wBM ?_ | refine wSub ?_ | refine wFor ?_ | refine wIterL ?_ | refine wRng1 ?_ | refine wZip ?_ | refine wLc ?_ | refine wLcF ?_ | refine wYes ?_ | refine wAddI ?_ | refine wIntT ?_ | refine wInt1 ?_ | refine wInt2 ?_ | refine wNext ?_)))
    rw [map_set_ref, put_put]
    generalize hs : ((joinedS (F.getD a []) (F.getD b [])).set b (joinV (at2 F a a) (at2 F b b))).set a (joinV (at2 F a a) (at2 F b b)) = s
    rw [put_comm r1z, put_comm rz, put_put]
    have e1 : put (put (put M z (.lst (((refs.set a r1).set b r).map .ref))) r (.lst (s.map vecV))) r1 (.lst (s.map vecV)) r1 = some (.lst (s.map vecV)) := put_same
    have e2 : put (put (put M z (.lst (((refs.set a r1).set b r).map .ref))) r (.lst (s.map vecV))) r1 (.lst (s.map vecV)) r = some (.lst (s.map vecV)) := by rw [put_ne r1r.symm, put_same]
    have hb' : behindF F (.meet a b) = (F.set a s).set b s := by rw [← hs]; rfl
    have rr : r ∉ refs.set a r1 := fun e => by
      rcases List.mem_or_eq_of_mem_set e with c | c
      · exact nr c
      · exact r1r c.symm
    refine q z ((refs.set a r1).set b r) _ ?_ hz ?_ ?_
    · exact (Ext.new hz _).trans ((Ext.new (by rw [put_ne rz]; exact hr') _).trans (Ext.new (by rw [put_ne r1r, put_ne r1z]; exact hr1') _))
    · have o1 := ra.o.set (M' := put (put (put M z (.lst (((refs.set a r1).set b r).map .ref))) r (.lst (s.map vecV))) r1 (.lst (s.map vecV))) (r := r1) (s := s) a ?_ nr1 e1
      · have o := o1.set (M' := put (put (put M z (.lst (((refs.set a r1).set b r).map .ref))) r (.lst (s.map vecV))) r1 (.lst (s.map vecV))) (r := r) (s := s) b (fun _ _ _ _ => rfl) rr e2
        rw [hb']
        refine ⟨by rw [put_ne r1z.symm, put_ne rz.symm, put_same], o.len, o.nd, o.row, fun e => ?_⟩
        rcases List.mem_or_eq_of_mem_set e with c | c
        · rcases List.mem_or_eq_of_mem_set c with d | d
          · exact nz d
          · exact r1z d.symm
        · exact rz c.symm
      · intro i x hx ic
        have hx' := List.mem_of_getElem? hx
        rw [put_ne fun e => nr1 (by rw [← e]; exact hx'), put_ne fun e => nr (by rw [← e]; exact hx'), put_ne fun e => nz (by rw [← e]; exact hx')]
    · intro x hx
      rcases List.mem_or_eq_of_mem_set hx with c | c
      · rcases List.mem_or_eq_of_mem_set c with d | d
        · exact .inl d
        · exact .inr (by rw [d]; exact hr1')
      · exact .inr (by rw [c]; exact hr')
end DL

set_option Elab.async false
set_option linter.all false
set_option maxRecDepth 100000
set_option maxHeartbeats 4000000
namespace DL
open PySem L2 PyProof.Rows
theorem Sq.zero (n : Nat) : Sq n (sheets0 n) := by
  refine ⟨by simp [sheets0], fun s hs => ?_⟩
  rw [List.eq_of_mem_replicate hs]
  refine ⟨by simp, fun v hv => ?_⟩
  rw [List.eq_of_mem_replicate hv]
  simp
theorem Sq.fold {n : Nat} : ∀ {acts : List Act} {F : Sheets}, Sq n F → (∀ x ∈ acts, x.ok n) → Sq n (acts.foldl behindF F)
  | [], F, h, _ => h
  | a :: r, F, h, ok => Sq.fold (acts := r) (h.behind (ok a (by simp))) fun x hx => ok x (by simp [hx])
theorem foldl_take {α β : Type} {f : β → α → β} {b : β} {xs : List α} {i : Nat} {x : α} (h : xs[i]? = some x) : (xs.take (i + 1)).foldl f b = f ((xs.take i).foldl f b) x := by
  rw [List.take_add_one, h, List.foldl_append]
  rfl
theorem rd_sheets : ∀ ds M Q, sp_sheets ds M Q → w_sheets { nx := fun _ M' => Q (.d .none) M', rt := Q } (dstart N_sheets ds) M := by
  rintro ds M Q ⟨n, y, acts, rfl, hn1, hn2, hy, hok, q⟩
  unfold w_sheets
  (repeat (with_reducible (first | refine wSeq ?_ | refine wAsg ?_ | refine wRet ?_ | refine wDrop ?_ | refine wName ?_ | (apply wVar; (case h => with_unfolding_all rfl)) | refine wC ?_ | refine wOp ?_ | refine wUn ?_ | refine wNil ?_ | refine wCons ?_ | refine wCB ?_ | refine wCall ?_ | refine wTest ?_ | refine wBool ?_ | refine wInt ?_ | refine wIfS ?_ | refine wIf ?_ | refine wAnd ?_ | refine wOr ?_ | refine wNot ?_ | refine wAndV ?_ | refine wOrV ?_ | refine wNotV ?_ | refine wTup ?_ | refine wLst ?_ | refine wLstF ?_ | refine wSl ?_ | refine wNoPart ?_ | refine wPart ?_ | refine wBM ?_ | refine wSub ?_ | refine wFor ?_ | refine wIterL ?_ | refine wRng1 ?_ | refine wZip ?_ | refine wLc ?_ | refine wLcF ?_ | refine wYes ?_ | refine wAddI ?_ | refine wIntT ?_ | refine wInt1 ?_ | refine wInt2 ?_ | refine wNext ?_)))
  refine ⟨_, rfl, by omega, by omega, ?_⟩
  rw [Int.toNat_natCast]
  have rowE : mkTup (List.replicate n (.d (.int 0))) = vecV (List.replicate n 0) := by
    rw [← mk_vec, List.map_replicate]
    rfl
  refine lcW_inv (fun i acc M' => ∃ refs : List Addr, acc = refs.map DV.ref ∧ refs.length = i ∧ refs.Nodup ∧ Ext M M' ∧ ∀ r ∈ refs, M r = none ∧ M' r = some (.lst ((List.replicate n (List.replicate n 0)).map vecV))) ?_ ?_ ?_
  · exact ⟨[], rfl, rfl, by simp, Ext.refl M, by simp⟩
  · rintro i x acc M' hx ⟨refs, rfl, hl, nd, ext, hr⟩
    refine ⟨trivial, fun K hK => ?_⟩
    have hi : i < n := by
      obtain ⟨h, _⟩ := List.getElem?_eq_some_iff.mp hx
      simpa [rng] using h
    (repeat (with_reducible (first | refine wSeq ?_ | refine wAsg ?_ | refine wRet ?_ | refine wDrop ?_ | refine wName ?_ | (apply wVar; (case h => with_unfolding_all rfl)) | refine wC ?_ | refine wOp ?_ | refine wUn ?_ | refine wNil ?_ | refine wCons ?_ | refine wCB ?_ | refine wCall ?_ | refine wTest ?_ | refine wBool ?_ | refine wInt ?_ | refine wIfS ?_ | refine wIf ?_ | refine wAnd ?_ | refine wOr ?_ | refine wNot ?_ | refine wAndV ?_ | refine wOrV ?_ | refine wNotV ?_ | refine wTup ?_ | refine wLst ?_ | refine wLstF ?_ | refine wSl ?_ | refine wNoPart ?_ | refine wPart ?_ | refine wBM ?_ | refine wSub ?_ | refine wFor ?_ | refine wIterL ?_ | refine wRng1 ?_ | refine wZip ?_ | refine wLc ?_ | refine wLcF ?_ | refine wYes ?_ | refine wAddI ?_ | refine wIntT ?_ | refine wInt1 ?_ | refine wInt2 ?_ | refine wNext ?_)))
    rw [if_pos rfl]
    (repeat (with_reducible (first | refine wSeq ?_ | refine wAsg ?_ | refine wRet ?_ | refine wDrop ?_ | refine wName ?_ | (apply wVar; (case h => with_unfolding_all rfl)) | refine wC ?_ | refine wOp ?_ | refine wUn ?_ | refine wNil ?_ | refine wCons ?_ | refine wCB ?_ | refine wCall ?_ | refine wTest ?_ | refine wBool ?_ | refine wInt ?_ | refine wIfS ?_ | refine wIf ?_ | refine wAnd ?_ | refine wOr ?_ | refine wNot ?_ | refine wAndV ?_ | refine wOrV ?_ | refine wNotV ?_ | refine wTup ?_ | refine wLst ?_ | refine wLstF ?_ | refine wSl ?_ | refine wNoPart ?_ | refine wPart ?_ | refine wBM ?_ | refine wSub ?_ | refine wFor ?_ | refine wIterL ?_ | refine wRng1 ?_ | refine wZip ?_ | refine wLc ?_ | refine wLcF ?_ | refine wYes ?_ | refine wAddI ?_ | refine wIntT ?_ | refine wInt1 ?_ | refine wInt2 ?_ | refine wNext ?_)))
    refine ⟨_, rfl, by omega, by omega, ?_⟩
    rw [Int.toNat_natCast]
    refine lcW_map (List.replicate n (vecV (List.replicate n 0))) (by simp [rng]) (lenOk (by simp [rng]; omega)) trivial ?_ ?_
    · intro j u v hu hv K2 k2
      (repeat (with_reducible (first | refine wSeq ?_ | refine wAsg ?_ | refine wRet ?_ | refine wDrop ?_ | refine wName ?_ | (apply wVar; (case h => with_unfolding_all rfl)) | refine wC ?_ | refine wOp ?_ | refine wUn ?_ | refine wNil ?_ | refine wCons ?_ | refine wCB ?_ | refine wCall ?_ | refine wTest ?_ | refine wBool ?_ | refine wInt ?_ | refine wIfS ?_ | refine wIf ?_ | refine wAnd ?_ | refine wOr ?_ | refine wNot ?_ | refine wAndV ?_ | refine wOrV ?_ | refine wNotV ?_ | refine wTup ?_ | refine wLst ?_ | refine wLstF ?_ | refine wSl ?_ | refine wNoPart ?_ | refine wPart ?_ | refine wBM ?_ | refine wSub ?_ | refine wFor ?_ | refine wIterL ?_ | refine wRng1 ?_ | refine wZip ?_ | refine wLc ?_ | refine wLcF ?_ | refine wYes ?_ | refine wAddI ?_ | refine wIntT ?_ | refine wInt1 ?_ | refine wInt2 ?_ | refine wNext ?_)))
      refine ⟨lenOk (by simp), ?_⟩
      (repeat (with_reducible (first | refine wSeq ?_ | refine wAsg ?_ | refine wRet ?_ | refine wDrop ?_ | refine wName ?_ | (apply wVar; (case h => with_unfolding_all rfl)) | refine wC ?_ | refine wOp ?_ | refine wUn ?_ | refine wNil ?_ | refine wCons ?_ | refine wCB ?_ | refine wCall ?_ | refine wTest ?_ | refine wBool ?_ | refine wInt ?_ | refine wIfS ?_ | refine wIf ?_ | refine wAnd ?_ | refine wOr ?_ | refine wNot ?_ | refine wAndV ?_ | refine wOrV ?_ | refine wNotV ?_ | refine wTup ?_ | refine wLst ?_ | refine wLstF ?_ | refine wSl ?_ | refine wNoPart ?_ | refine wPart ?_ | refine wBM ?_ | refine wSub ?_ | refine wFor ?_ | refine wIterL ?_ | refine wRng1 ?_ | refine wZip ?_ | refine wLc ?_ | refine wLcF ?_ | refine wYes ?_ | refine wAddI ?_ | refine wIntT ?_ | refine wInt1 ?_ | refine wInt2 ?_ | refine wNext ?_)))
      refine wMulT (tupOf_mkTup _) rfl hn1 (by omega) ?_
      rw [rowE]
      have : v = vecV (List.replicate n 0) := List.eq_of_mem_replicate (List.mem_of_getElem? hv)
      rw [← this]
      exact k2
    · intro r hr0
      refine ⟨by
        have : 1000 ≤ sizeLine := by decide
        simp [hl]
        omega, hK _ _ ⟨refs ++ [r], by simp, by simp [hl], ?_, ext.trans (Ext.new hr0 _), ?_⟩⟩
      · rw [List.nodup_append]
        refine ⟨nd, by simp, fun a ha b hb => ?_⟩
        simp at hb
        subst hb
        exact Ext.ne hr0 (hr a ha).2
      · intro a ha
        rcases List.mem_append.mp ha with h | h
        · exact ⟨(hr a h).1, by rw [put_ne (Ext.ne hr0 (hr a h).2)]; exact (hr a h).2⟩
        · simp at h
          subst h
          exact ⟨ext.free hr0, by rw [put_same, List.map_replicate]⟩
  · rintro acc M' ⟨refs, rfl, hl, nd, ext, hr⟩
    refine ⟨trivial, fun p hp => ?_⟩
    (repeat (with_reducible (first | refine wSeq ?_ | refine wAsg ?_ | refine wRet ?_ | refine wDrop ?_ | refine wName ?_ | (apply wVar; (case h => with_unfolding_all rfl)) | refine wC ?_ | refine wOp ?_ | refine wUn ?_ | refine wNil ?_ | refine wCons ?_ | refine wCB ?_ | refine wCall ?_ | refine wTest ?_ | refine wBool ?_ | refine wInt ?_ | refine wIfS ?_ | refine wIf ?_ | refine wAnd ?_ | refine wOr ?_ | refine wNot ?_ | refine wAndV ?_ | refine wOrV ?_ | refine wNotV ?_ | refine wTup ?_ | refine wLst ?_ | refine wLstF ?_ | refine wSl ?_ | refine wNoPart ?_ | refine wPart ?_ | refine wBM ?_ | refine wSub ?_ | refine wFor ?_ | refine wIterL ?_ | refine wRng1 ?_ | refine wZip ?_ | refine wLc ?_ | refine wLcF ?_ | refine wYes ?_ | refine wAddI ?_ | refine wIntT ?_ | refine wInt1 ?_ | refine wInt2 ?_ | refine wNext ?_)))
    have hl' : refs.length = n := by rw [hl]; simp [rng]
    refine ⟨_, (ext.trans (Ext.new hp _)).lst hy, ?_⟩
    refine forW_inv (fun i ρ M2 => ∃ (p : Addr) (refs : List Addr) (x3 x4 : Option DV), Ext M M2 ∧ M p = none ∧ (∀ r ∈ refs, M r = none) ∧ RowsAt M2 p refs ((acts.take i).foldl behindF (sheets0 n)) ∧
      ρ = [some (.d (.int n)), some y, some (.ref p), x3, x4]) ?_ ?_ ?_
    · refine ⟨p, refs, none, none, ext.trans (Ext.new hp _), ext.free hp, fun r h => (hr r h).1, ?_, rfl⟩
      have np : p ∉ refs := fun h => by rw [(hr p h).2] at hp; cases hp
      refine ⟨put_same, by simp [sheets0, hl'], nd, fun i r h => ?_, np⟩
      have hm := List.mem_of_getElem? h
      have hi : i < n := by
        obtain ⟨z, _⟩ := List.getElem?_eq_some_iff.mp h
        omega
      rw [put_ne fun e => np (by rw [← e]; exact hm), (hr r hm).2]
      simp [sheets0, List.getD, hi]
    · rintro i x ρ M2 hx ⟨p, refs, x3, x4, ext, hp, hr, ra, rfl⟩
      refine ⟨ext.lst hy, fun K hK => ?_⟩
      rw [List.getElem?_map] at hx
      cases ea : acts[i]? with
      | none => rw [ea] at hx; simp at hx
      | some act =>
        rw [ea] at hx
        obtain rfl := Option.some.inj hx
        (repeat (with_reducible (first | refine wSeq ?_ | refine wAsg ?_ | refine wRet ?_ | refine wDrop ?_ | refine wName ?_ | (apply wVar; (case h => with_unfolding_all rfl)) | refine wC ?_ | refine wOp ?_ | refine wUn ?_ | refine wNil ?_ | refine wCons ?_ | refine wCB ?_ | refine wCall ?_ | refine wTest ?_ | refine wBool ?_ | refine wInt ?_ | refine wIfS ?_ | refine wIf ?_ | refine wAnd ?_ | refine wOr ?_ | refine wNot ?_ | refine wAndV ?_ | refine wOrV ?_ | refine wNotV ?_ | refine wTup ?_ | refine wLst ?_ | refine wLstF ?_ | refine wSl ?_ | refine wNoPart ?_ | refine wPart ?_ | refine wBM ?_ | refine wSub ?_ | refine wFor ?_ | refine wIterL ?_ | refine wRng1 ?_ | refine wZip ?_ | refine wLc ?_ | refine wLcF ?_ | refine wYes ?_ | refine wAddI ?_ | refine wIntT ?_ | refine wInt1 ?_ | refine wInt2 ?_ | refine wNext ?_)))
        refine ⟨n, p, refs, _, act, rfl, hn2, (Sq.zero n).fold fun x hx => hok x (List.mem_of_mem_take hx), ra, hok act (List.mem_of_getElem? ea), fun p' refs' M3 ext3 hp' ra' sub => ?_⟩
        (repeat (with_reducible (first | refine wSeq ?_ | refine wAsg ?_ | refine wRet ?_ | refine wDrop ?_ | refine wName ?_ | (apply wVar; (case h => with_unfolding_all rfl)) | refine wC ?_ | refine wOp ?_ | refine wUn ?_ | refine wNil ?_ | refine wCons ?_ | refine wCB ?_ | refine wCall ?_ | refine wTest ?_ | refine wBool ?_ | refine wInt ?_ | refine wIfS ?_ | refine wIf ?_ | refine wAnd ?_ | refine wOr ?_ | refine wNot ?_ | refine wAndV ?_ | refine wOrV ?_ | refine wNotV ?_ | refine wTup ?_ | refine wLst ?_ | refine wLstF ?_ | refine wSl ?_ | refine wNoPart ?_ | refine wPart ?_ | refine wBM ?_ | refine wSub ?_ | refine wFor ?_ | refine wIterL ?_ | refine wRng1 ?_ | refine wZip ?_ | refine wLc ?_ | refine wLcF ?_ | refine wYes ?_ | refine wAddI ?_ | refine wIntT ?_ | refine wInt1 ?_ | refine wInt2 ?_ | refine wNext ?_)))
        refine hK _ _ ⟨p', refs', _, _, ext.trans ext3, ext.free hp', fun r h => ?_, ?_, rfl⟩
        · rcases sub r h with c | c
          · exact hr r c
          · exact ext.free c
        · rw [foldl_take ea]
          exact ra'
    · rintro ρ M2 ⟨p, refs, x3, x4, ext, hp, hr, ra, rfl⟩
      refine ⟨ext.lst hy, ?_⟩
      (repeat (with_reducible (first | refine wSeq ?_ | refine wAsg ?_ | refine wRet ?_ | refine wDrop ?_ | refine wName ?_ | (apply wVar; (case h => with_unfolding_all rfl)) | refine wC ?_ | refine wOp ?_ | refine wUn ?_ | refine wNil ?_ | refine wCons ?_ | refine wCB ?_ | refine wCall ?_ | refine wTest ?_ | refine wBool ?_ | refine wInt ?_ | refine wIfS ?_ | refine wIf ?_ | refine wAnd ?_ | refine wOr ?_ | refine wNot ?_ | refine wAndV ?_ | refine wOrV ?_ | refine wNotV ?_ | refine wTup ?_ | refine wLst ?_ | refine wLstF ?_ | refine wSl ?_ | refine wNoPart ?_ | refine wPart ?_ | refine wBM ?_ | refine wSub ?_ | refine wFor ?_ | refine wIterL ?_ | refine wRng1 ?_ | refine wZip ?_ | refine wLc ?_ | refine wLcF ?_ | refine wYes ?_ | refine wAddI ?_ | refine wIntT ?_ | refine wInt1 ?_ | refine wInt2 ?_ | refine wNext ?_)))
      rw [List.length_map, List.take_length] at ra
      exact q p refs M2 ext hp hr ra
theorem sheetsF_sq {n : Nat} {acts : List Act} (ok : ∀ x ∈ acts, x.ok n) : Sq n (sheetsF n acts) := (Sq.zero n).fold ok
theorem meet_len {n : Nat} : ∀ {vs : List Vec} {v : Vec}, v.length = n → (∀ u ∈ vs, u.length = n) → (vs.foldl meetV v).length = n
  | [], v, h, _ => h
  | u :: vs, v, h, hs => meet_len (vs := vs) (by simp [meetV, h, hs u (by simp)]) fun w hw => hs w (by simp [hw])
theorem rd_sure : ∀ ds M Q, sp_sure ds M Q → w_sure { nx := fun _ M' => Q (.d .none) M', rt := Q } (dstart N_sure ds) M := by
  rintro ds M Q ⟨n, y, acts, rfl, hn1, hn2, hy, hok, q⟩
  unfold w_sure
  (repeat (with_reducible (first | refine wSeq ?_ | refine wAsg ?_ | refine wRet ?_ | refine wDrop ?_ | refine wName ?_ | (apply wVar; (case h => with_unfolding_all rfl)) | refine wC ?_ | refine wOp ?_ | refine wUn ?_ | refine wNil ?_ | refine wCons ?_ | refine wCB ?_ | refine wCall ?_ | refine wTest ?_ | refine wBool ?_ | refine wInt ?_ | refine wIfS ?_ | refine wIf ?_ | refine wAnd ?_ | refine wOr ?_ | refine wNot ?_ | refine wAndV ?_ | refine wOrV ?_ | refine wNotV ?_ | refine wTup ?_ | refine wLst ?_ | refine wLstF ?_ | refine wSl ?_ | refine wNoPart ?_ | refine wPart ?_ | refine wBM ?_ | refine wSub ?_ | refine wFor ?_ | refine wIterL ?_ | refine wRng1 ?_ | refine wZip ?_ | refine wLc ?_ | refine wLcF ?_ | refine wYes ?_ | refine wAddI ?_ | refine wIntT ?_ | refine wInt1 ?_ | refine wInt2 ?_ | refine wNext ?_)))
  refine ⟨lenOk (by simp), fun p hp => ?_⟩
  (repeat (with_reducible (first | refine wSeq ?_ | refine wAsg ?_ | refine wRet ?_ | refine wDrop ?_ | refine wName ?_ | (apply wVar; (case h => with_unfolding_all rfl)) | refine wC ?_ | refine wOp ?_ | refine wUn ?_ | refine wNil ?_ | refine wCons ?_ | refine wCB ?_ | refine wCall ?_ | refine wTest ?_ | refine wBool ?_ | refine wInt ?_ | refine wIfS ?_ | refine wIf ?_ | refine wAnd ?_ | refine wOr ?_ | refine wNot ?_ | refine wAndV ?_ | refine wOrV ?_ | refine wNotV ?_ | refine wTup ?_ | refine wLst ?_ | refine wLstF ?_ | refine wSl ?_ | refine wNoPart ?_ | refine wPart ?_ | refine wBM ?_ | refine wSub ?_ | refine wFor ?_ | refine wIterL ?_ | refine wRng1 ?_ | refine wZip ?_ | refine wLc ?_ | refine wLcF ?_ | refine wYes ?_ | refine wAddI ?_ | refine wIntT ?_ | refine wInt1 ?_ | refine wInt2 ?_ | refine wNext ?_)))
  refine ⟨n, y, acts, rfl, hn1, hn2, (Ext.new hp _).lst hy, hok, fun p1 refs M2 ext hp1 hr ra => ?_⟩
  have sq := sheetsF_sq hok
  have np1 : p ≠ p1 := fun e => by rw [e, put_same] at hp1; cases hp1
  have npr : p ∉ refs := fun e => by have := hr p e; rw [put_same] at this; cases this
  have hp2 : M2 p = some (.lst []) := ext p _ put_same
  have extM : ∀ L, Ext M (put M2 p L) := fun L a o e => by
    have ne : a ≠ p := Ext.ne hp e
    rw [put_ne ne]
    exact ext a o (by rw [put_ne ne]; exact e)
  refine ⟨_, listOf_ref ra.top, ?_⟩
  have rl : refs.length = n := by rw [ra.len, sq.len]
  refine forW_inv (fun i ρ M3 => ∃ (x3 x4 x5 : Option DV), M3 = put M2 p (.lst (((sureF n acts).take i).map vecV)) ∧ ρ = [some (.d (.int n)), some y, some (.ref p), x3, x4, x5]) ?_ ?_ ?_
  · exact ⟨none, none, none, (put_self hp2).symm, rfl⟩
  · rintro i x ρ M3 hx ⟨x3, x4, x5, rfl, rfl⟩
    refine ⟨listOf_ref (by rw [put_ne np1.symm]; exact ra.top), fun K hK => ?_⟩
    rw [List.getElem?_map] at hx
    cases er : refs[i]? with
    | none => rw [er] at hx; simp at hx
    | some r =>
      rw [er] at hx
      obtain rfl := Option.some.inj hx
      have hi : i < n := by
        obtain ⟨z, _⟩ := List.getElem?_eq_some_iff.mp er
        omega
      have nrp : r ≠ p := fun e => npr (by rw [← e]; exact List.mem_of_getElem? er)
      have rowE := ra.row i r er
      have rok := sq.rowOk hi
      generalize hF : (sheetsF n acts).getD i [] = s at rowE rok
      have hsure : (sureF n acts)[i]? = some (leastS s) := by
        have h1 : (sheetsF n acts)[i]? = some ((sheetsF n acts).getD i []) := getD_some (by rw [sq.len]; exact hi)
        rw [sureF, List.getElem?_map, h1, hF]
        rfl
      cases s with
      | nil => simp at rok; omega
      | cons v0 vs =>
        (repeat (with_reducible (first | refine wSeq ?_ | refine wAsg ?_ | refine wRet ?_ | refine wDrop ?_ | refine wName ?_ | (apply wVar; (case h => with_unfolding_all rfl)) | refine wC ?_ | refine wOp ?_ | refine wUn ?_ | refine wNil ?_ | refine wCons ?_ | refine wCB ?_ | refine wCall ?_ | refine wTest ?_ | refine wBool ?_ | refine wInt ?_ | refine wIfS ?_ | refine wIf ?_ | refine wAnd ?_ | refine wOr ?_ | refine wNot ?_ | refine wAndV ?_ | refine wOrV ?_ | refine wNotV ?_ | refine wTup ?_ | refine wLst ?_ | refine wLstF ?_ | refine wSl ?_ | refine wNoPart ?_ | refine wPart ?_ | refine wBM ?_ | refine wSub ?_ | refine wFor ?_ | refine wIterL ?_ | refine wRng1 ?_ | refine wZip ?_ | refine wLc ?_ | refine wLcF ?_ | refine wYes ?_ | refine wAddI ?_ | refine wIntT ?_ | refine wInt1 ?_ | refine wInt2 ?_ | refine wNext ?_)))
        refine wIx 0 (seqOf_ref (by rw [put_ne nrp]; exact rowE)) rfl rfl ?_
        (repeat (with_reducible (first | refine wSeq ?_ | refine wAsg ?_ | refine wRet ?_ | refine wDrop ?_ | refine wName ?_ | (apply wVar; (case h => with_unfolding_all rfl)) | refine wC ?_ | refine wOp ?_ | refine wUn ?_ | refine wNil ?_ | refine wCons ?_ | refine wCB ?_ | refine wCall ?_ | refine wTest ?_ | refine wBool ?_ | refine wInt ?_ | refine wIfS ?_ | refine wIf ?_ | refine wAnd ?_ | refine wOr ?_ | refine wNot ?_ | refine wAndV ?_ | refine wOrV ?_ | refine wNotV ?_ | refine wTup ?_ | refine wLst ?_ | refine wLstF ?_ | refine wSl ?_ | refine wNoPart ?_ | refine wPart ?_ | refine wBM ?_ | refine wSub ?_ | refine wFor ?_ | refine wIterL ?_ | refine wRng1 ?_ | refine wZip ?_ | refine wLc ?_ | refine wLcF ?_ | refine wYes ?_ | refine wAddI ?_ | refine wIntT ?_ | refine wInt1 ?_ | refine wInt2 ?_ | refine wNext ?_)))
        refine ⟨(v0 :: vs).map vecV, vs.map vecD, listOf_ref (by rw [put_ne nrp]; exact rowE), ?_, ?_⟩
        · have : cutD ((v0 :: vs).map vecV) (some 1) none = (vs.map vecD).map DV.d := by
            unfold cutD
            have e1 : (1 : Int) = ((1 : Nat) : Int) := rfl
            rw [HT.sIx_none, e1, HT.sIx_nat]
            simp
            rw [List.take_of_length_le (by simp)]
            rfl
          rw [this, dataL_map]
        refine ⟨_, rfl, ?_⟩
        refine forW_inv (fun j ρ M4 => ∃ (x5 : Option DV), M4 = put M2 p (.lst (((sureF n acts).take i).map vecV)) ∧ ρ = [some (.d (.int n)), some y, some (.ref p), some (.ref r), some (vecV ((vs.take j).foldl meetV v0)), x5]) ?_ ?_ ?_
        · exact ⟨x5, rfl, rfl⟩
        · rintro j u ρ M4 hu ⟨x5, rfl, rfl⟩
          refine ⟨rfl, fun K2 hK2 => ?_⟩
          rw [List.getElem?_map, List.getElem?_map] at hu
          cases eu : vs[j]? with
          | none => rw [eu] at hu; simp at hu
          | some v =>
            rw [eu] at hu
            obtain rfl := Option.some.inj hu
            (repeat (with_reducible (first | refine wSeq ?_ | refine wAsg ?_ | refine wRet ?_ | refine wDrop ?_ | refine wName ?_ | (apply wVar; (case h => with_unfolding_all rfl)) | refine wC ?_ | refine wOp ?_ | refine wUn ?_ | refine wNil ?_ | refine wCons ?_ | refine wCB ?_ | refine wCall ?_ | refine wTest ?_ | refine wBool ?_ | refine wInt ?_ | refine wIfS ?_ | refine wIf ?_ | refine wAnd ?_ | refine wOr ?_ | refine wNot ?_ | refine wAndV ?_ | refine wOrV ?_ | refine wNotV ?_ | refine wTup ?_ | refine wLst ?_ | refine wLstF ?_ | refine wSl ?_ | refine wNoPart ?_ | refine wPart ?_ | refine wBM ?_ | refine wSub ?_ | refine wFor ?_ | refine wIterL ?_ | refine wRng1 ?_ | refine wZip ?_ | refine wLc ?_ | refine wLcF ?_ | refine wYes ?_ | refine wAddI ?_ | refine wIntT ?_ | refine wInt1 ?_ | refine wInt2 ?_ | refine wNext ?_)))
            have vl : v.length = n := rok.2 v (by simp [List.mem_of_getElem? eu])
            have ml : ((vs.take j).foldl meetV v0).length = n := meet_len (rok.2 v0 (by simp)) fun w hw => rok.2 w (by simp [List.mem_of_mem_take hw])
            refine ⟨_, v, rfl, by omega, by omega, ?_⟩
            (repeat (with_reducible (first | refine wSeq ?_ | refine wAsg ?_ | refine wRet ?_ | refine wDrop ?_ | refine wName ?_ | (apply wVar; (case h => with_unfolding_all rfl)) | refine wC ?_ | refine wOp ?_ | refine wUn ?_ | refine wNil ?_ | refine wCons ?_ | refine wCB ?_ | refine wCall ?_ | refine wTest ?_ | refine wBool ?_ | refine wInt ?_ | refine wIfS ?_ | refine wIf ?_ | refine wAnd ?_ | refine wOr ?_ | refine wNot ?_ | refine wAndV ?_ | refine wOrV ?_ | refine wNotV ?_ | refine wTup ?_ | refine wLst ?_ | refine wLstF ?_ | refine wSl ?_ | refine wNoPart ?_ | refine wPart ?_ | refine wBM ?_ | refine wSub ?_ | refine wFor ?_ | refine wIterL ?_ | refine wRng1 ?_ | refine wZip ?_ | refine wLc ?_ | refine wLcF ?_ | refine wYes ?_ | refine wAddI ?_ | refine wIntT ?_ | refine wInt1 ?_ | refine wInt2 ?_ | refine wNext ?_)))
            refine hK2 _ _ ⟨some (vecV v), rfl, ?_⟩
            rw [foldl_take eu]
            rfl
        · rintro ρ M4 ⟨x5, rfl, rfl⟩
          refine ⟨rfl, ?_⟩
          (repeat (with_reducible (first | refine wSeq ?_ | refine wAsg ?_ | refine wRet ?_ | refine wDrop ?_ | refine wName ?_ | (apply wVar; (case h => with_unfolding_all rfl)) | refine wC ?_ | refine wOp ?_ | refine wUn ?_ | refine wNil ?_ | refine wCons ?_ | refine wCB ?_ | refine wCall ?_ | refine wTest ?_ | refine wBool ?_ | refine wInt ?_ | refine wIfS ?_ | refine wIf ?_ | refine wAnd ?_ | refine wOr ?_ | refine wNot ?_ | refine wAndV ?_ | refine wOrV ?_ | refine wNotV ?_ | refine wTup ?_ | refine wLst ?_ | refine wLstF ?_ | refine wSl ?_ | refine wNoPart ?_ | refine wPart ?_ | refine wBM ?_ | refine wSub ?_ | refine wFor ?_ | refine wIterL ?_ | refine wRng1 ?_ | refine wZip ?_ | refine wLc ?_ | refine wLcF ?_ | refine wYes ?_ | refine wAddI ?_ | refine wIntT ?_ | refine wInt1 ?_ | refine wInt2 ?_ | refine wNext ?_)))
          refine ⟨isLst_ref put_same, ?_⟩
          (repeat (with_reducible (first | refine wSeq ?_ | refine wAsg ?_ | refine wRet ?_ | refine wDrop ?_ | refine wName ?_ | (apply wVar; (case h => with_unfolding_all rfl)) | refine wC ?_ | refine wOp ?_ | refine wUn ?_ | refine wNil ?_ | refine wCons ?_ | refine wCB ?_ | refine wCall ?_ | refine wTest ?_ | refine wBool ?_ | refine wInt ?_ | refine wIfS ?_ | refine wIf ?_ | refine wAnd ?_ | refine wOr ?_ | refine wNot ?_ | refine wAndV ?_ | refine wOrV ?_ | refine wNotV ?_ | refine wTup ?_ | refine wLst ?_ | refine wLstF ?_ | refine wSl ?_ | refine wNoPart ?_ | refine wPart ?_ | refine wBM ?_ | refine wSub ?_ | refine wFor ?_ | refine wIterL ?_ | refine wRng1 ?_ | refine wZip ?_ | refine wLc ?_ | refine wLcF ?_ | refine wYes ?_ | refine wAddI ?_ | refine wIntT ?_ | refine wInt1 ?_ | refine wInt2 ?_ | refine wNext ?_)))
          have zl : (((sureF n acts).take i).map vecV).length < sizeLine := by
            have : 1000 ≤ sizeLine := by decide
            simp
            omega
          refine wAppend rfl put_same zl ?_
          refine hK _ _ ⟨_, _, _, ?_, rfl⟩
          rw [put_put, List.take_add_one, hsure, List.map_append]
          simp [leastS, List.take_length]
  · rintro ρ M3 ⟨x3, x4, x5, rfl, rfl⟩
    refine ⟨listOf_ref (by rw [put_ne np1.symm]; exact ra.top), ?_⟩
    (repeat (with_reducible (first | refine wSeq ?_ | refine wAsg ?_ | refine wRet ?_ | refine wDrop ?_ | refine wName ?_ | (apply wVar; (case h => with_unfolding_all rfl)) | refine wC ?_ | refine wOp ?_ | refine wUn ?_ | refine wNil ?_ | refine wCons ?_ | refine wCB ?_ | refine wCall ?_ | refine wTest ?_ | refine wBool ?_ | refine wInt ?_ | refine wIfS ?_ | refine wIf ?_ | refine wAnd ?_ | refine wOr ?_ | refine wNot ?_ | refine wAndV ?_ | refine wOrV ?_ | refine wNotV ?_ | refine wTup ?_ | refine wLst ?_ | refine wLstF ?_ | refine wSl ?_ | refine wNoPart ?_ | refine wPart ?_ | refine wBM ?_ | refine wSub ?_ | refine wFor ?_ | refine wIterL ?_ | refine wRng1 ?_ | refine wZip ?_ | refine wLc ?_ | refine wLcF ?_ | refine wYes ?_ | refine wAddI ?_ | refine wIntT ?_ | refine wInt1 ?_ | refine wInt2 ?_ | refine wNext ?_)))
    refine q p _ (extM _) hp ?_
    rw [put_same, List.length_map, List.take_of_length_le]
    simp [sureF, sq.len, rl]
end DL

set_option Elab.async false
set_option linter.all false
set_option maxRecDepth 100000
set_option maxHeartbeats 4000000
namespace DL
open PySem L2 PyProof.Rows
/-! ### comprehensions that make new objects -/
theorem Ext.put {M M' : DM} (e : Ext M M') {p : Addr} (h : M p = none) (o : DO) : Ext M (put M' p o) := fun a u ea => by
  rw [put_ne (Ext.ne h ea)]
  exact e a u ea
theorem lcW_ext {g : TDG} {te : TDE} {ρ : DSt} {S : DM → Prop} {M : DM} {P : Nat → DV → DM → DM → Prop} {D : DV → DV → Prop} {xs : List DV} {Q : List DV → DM → Prop} (hz : xs.length ≤ sizeLine) (hS : ∀ M', Ext M M' → S M')
    (hD : ∀ (i j : Nat) (v w : DV) (Mb Ma Mb' Ma' : DM), i < j → P i v Mb Ma → Ext Ma Mb' → P j w Mb' Ma' → D v w)
    (step : ∀ (i : Nat) (x : DV) (M' : DM), xs[i]? = some x → Ext M M' → ∀ K : DK, (∀ v M'', Ext M' M'' → P i v M' M'' → K v M'') → g x ρ M' fun ρ2 M2 => te ρ2 M2 K)
    (q : ∀ (f : Nat → DV) (M' : DM), Ext M M' → (∀ j, j < xs.length → ∃ Mb Ma, Ext M Mb ∧ Ext Ma M' ∧ P j (f j) Mb Ma) → (∀ j' j, j' < j → j < xs.length → D (f j') (f j)) → Q ((List.range xs.length).map f) M') : lcW g dYes te ρ S Q xs [] M := by
  refine lcW_inv (fun i acc M' => ∃ f : Nat → DV, acc = (List.range i).map f ∧ Ext M M' ∧ (∀ j, j < i → ∃ Mb Ma, Ext M Mb ∧ Ext Ma M' ∧ P j (f j) Mb Ma) ∧ ∀ j' j, j' < j → j < i → D (f j') (f j)) ?_ ?_ ?_
  · exact ⟨fun _ => .d .none, rfl, Ext.refl M, fun j h => absurd h (Nat.not_lt_zero _), fun _ j _ h => absurd h (Nat.not_lt_zero _)⟩
  · rintro i x acc M' hx ⟨f, rfl, ext, hf, hd⟩
    refine ⟨hS _ ext, fun K hK => ?_⟩
    obtain ⟨hi, _⟩ := List.getElem?_eq_some_iff.mp hx
    refine step i x M' hx ext (fun y M4 => ((List.range i).map f).length < sizeLine ∧ K ((List.range i).map f ++ [y]) M4) fun v M'' ext2 hp => ⟨by simp; omega, hK _ _ ⟨fun j => if j = i then v else f j, ?_, ext.trans ext2, ?_, ?_⟩⟩
    · rw [List.range_succ, List.map_append]
      congr 1
      · refine List.map_congr_left fun j hj => ?_
        rw [if_neg (by have := List.mem_range.mp hj; omega)]
      · simp
    · intro j hj
      by_cases c : j = i
      · subst c
        exact ⟨M', M'', ext, Ext.refl _, by show P j (if j = j then v else f j) M' M''; rw [if_pos rfl]; exact hp⟩
      · obtain ⟨Mb, Ma, e1, e2, h⟩ := hf j (by omega)
        exact ⟨Mb, Ma, e1, e2.trans ext2, by show P j (if j = i then v else f j) Mb Ma; rw [if_neg c]; exact h⟩
    · intro j' j h1 h2
      show D (if j' = i then v else f j') (if j = i then v else f j)
      rw [if_neg (by omega : ¬ j' = i)]
      by_cases c : j = i
      · rw [if_pos c]
        obtain ⟨Mb, Ma, e1, e2, h⟩ := hf j' (by omega)
        exact hD j' i _ _ _ _ _ _ (by omega) h e2 hp
      · rw [if_neg c]
        exact hd j' j h1 (by omega)
  · rintro acc M' ⟨f, rfl, ext, hf, hd⟩
    exact ⟨hS _ ext, q f M' ext hf hd⟩
/-- new objects, one for each item -/
theorem lcW_objs {g : TDG} {te : TDE} {ρ : DSt} {S : DM → Prop} {M : DM} {xs : List DV} {Q : List DV → DM → Prop} (os : Nat → DO) (hz : xs.length ≤ sizeLine) (hS : ∀ M', Ext M M' → S M')
    (step : ∀ (i : Nat) (x : DV) (M' : DM), xs[i]? = some x → Ext M M' → ∀ K : DK, (∀ r, M' r = none → K (.ref r) (put M' r (os i))) → g x ρ M' fun ρ2 M2 => te ρ2 M2 K)
    (q : ∀ (c : Nat → Addr) (M' : DM), Ext M M' → (∀ j, j < xs.length → M (c j) = none ∧ M' (c j) = some (os j)) → (∀ j' j, j' < xs.length → j < xs.length → c j' = c j → j' = j) → Q ((List.range xs.length).map fun j => .ref (c j)) M') : lcW g dYes te ρ S Q xs [] M := by
  refine lcW_ext (P := fun i v Mb Ma => ∃ r, v = .ref r ∧ Mb r = none ∧ Ma r = some (os i)) (D := fun v w => v ≠ w) hz hS ?_ ?_ ?_
  · rintro i j v w Mb Ma Mb' Ma' ij ⟨r, rfl, h1, h2⟩ e ⟨r', rfl, h3, h4⟩ z
    injection z with z
    subst z
    rw [e _ _ h2] at h3
    cases h3
  · intro i x M' hx ext K hK
    exact step i x M' hx ext K fun r hr => hK _ _ (Ext.new hr _) ⟨r, rfl, hr, put_same⟩
  · intro f M' ext hf hd
    have hc : ∀ j, ∃ r, j < xs.length → f j = .ref r ∧ M r = none ∧ M' r = some (os j) := fun j => by
      by_cases h : j < xs.length
      · obtain ⟨Mb, Ma, e1, e2, r, e, h1, h2⟩ := hf j h
        exact ⟨r, fun _ => ⟨e, e1.free h1, e2 _ _ h2⟩⟩
      · exact ⟨0, fun z => absurd z h⟩
    have e : (List.range xs.length).map f = (List.range xs.length).map fun j => .ref (Classical.choose (hc j)) := by
      refine List.map_congr_left fun j hj => ?_
      exact (Classical.choose_spec (hc j) (List.mem_range.mp hj)).1
    rw [e]
    refine q _ M' ext (fun j hj => (Classical.choose_spec (hc j) hj).2) fun j' j h1 h2 z => ?_
    rcases Nat.lt_trichotomy j' j with c | c | c
    · refine absurd ?_ (hd j' j c h2)
      rw [(Classical.choose_spec (hc j') h1).1, (Classical.choose_spec (hc j) h2).1, z]
    · exact c
    · refine absurd ?_ (hd j j' c h1)
      rw [(Classical.choose_spec (hc j') h1).1, (Classical.choose_spec (hc j) h2).1, z]

/-! ### what is known, as lists -/
theorem ins_mem {s : Kn} {x y : Nat × Nat} : y ∈ ins s x ↔ y ∈ s ∨ y = x := by
  unfold ins
  split
  · exact ⟨.inl, fun h => h.elim id fun e => by rw [e]; assumption⟩
  · simp
theorem ins_nodup {s : Kn} {x : Nat × Nat} (h : s.Nodup) : (ins s x).Nodup := by
  unfold ins
  split
  · exact h
  · rw [List.nodup_append]
    refine ⟨h, by simp, fun a ha b hb => ?_⟩
    simp at hb
    subst hb
    intro e
    subst e
    contradiction
theorem mrg_mem {y : Nat × Nat} : ∀ {t s : Kn}, y ∈ mrg s t ↔ y ∈ s ∨ y ∈ t
  | [], s => by simp [mrg]
  | x :: t, s => by
    have e : mrg s (x :: t) = mrg (ins s x) t := rfl
    rw [e, mrg_mem (t := t), ins_mem, List.mem_cons, or_assoc]
theorem mrg_nodup : ∀ {t s : Kn}, s.Nodup → (mrg s t).Nodup
  | [], s, h => h
  | x :: t, s, h => mrg_nodup (t := t) (ins_nodup h)
/-- all of the copies under n, numbered up to m -/
def KnOk (n m : Nat) (s : Kn) : Prop := s.Nodup ∧ ∀ x ∈ s, x.1 < n ∧ x.2 ≤ m
theorem KnOk.ins {n m : Nat} {s : Kn} (h : KnOk n m s) {c k : Nat} (hc : c < n) (hk : k ≤ m) : KnOk n m (ins s (c, k)) := ⟨ins_nodup h.1, fun x hx => by
  rcases ins_mem.mp hx with z | z
  · exact h.2 x z
  · rw [z]; exact ⟨hc, hk⟩⟩
theorem KnOk.mrg {n m : Nat} {s t : Kn} (h : KnOk n m s) (h' : KnOk n m t) : KnOk n m (mrg s t) := ⟨mrg_nodup h.1, fun x hx => by
  rcases mrg_mem.mp hx with z | z
  · exact h.2 x z
  · exact h'.2 x z⟩
theorem KnOk.mono {n m m' : Nat} {s : Kn} (h : KnOk n m s) (e : m ≤ m') : KnOk n m' s := ⟨h.1, fun x hx => ⟨(h.2 x hx).1, by have := (h.2 x hx).2; omega⟩⟩
theorem KnOk.nil {n m : Nat} : KnOk n m [] := ⟨by simp, by simp⟩
theorem nodup_lt : ∀ (n : Nat) (l : List Nat), l.Nodup → (∀ x ∈ l, x < n) → l.length ≤ n
  | 0, l, _, h => by
    cases l with
    | nil => simp
    | cons a l => have := h a (by simp); omega
  | n + 1, l, nd, h => by
    by_cases c : n ∈ l
    · have h1 := nodup_lt n (l.erase n) (nd.erase n) fun x hx => by
        have := (nd.mem_erase_iff).mp hx
        have := h x this.2
        omega
      have h2 := List.length_erase_of_mem c
      omega
    · have := nodup_lt n l nd fun x hx => by
        have := h x hx
        have : x ≠ n := fun e => c (by rw [← e]; exact hx)
        omega
      omega
theorem KnOk.len {n m : Nat} {s : Kn} (h : KnOk n m s) (hn : n ≤ 12) (hm : m ≤ 400) : s.length ≤ 4824 := by
  have := nodup_lt 4824 (s.map fun x => x.1 * 402 + x.2) (by
    unfold List.Nodup
    rw [List.pairwise_map]
    refine h.1.imp_of_mem ?_
    intro a b ha hb ne e
    have h1 := h.2 a ha
    have h2 := h.2 b hb
    exact ne (Prod.ext (by omega) (by omega))) (fun x hx => by
    obtain ⟨y, hy, rfl⟩ := List.mem_map.mp hx
    have := h.2 y hy
    omega)
  simpa using this
theorem KnOk.hash {n m : Nat} {s : Kn} (w : World) (h : KnOk n m s) (hn : n ≤ 12) (hm : m ≤ 400) : ((knD s).map fun x => x.1.hash w).Nodup := by
  unfold knD
  rw [List.map_map]
  exact hash_nodup w h.1 fun x hx => by
    have := h.2 x hx
    omega
theorem dget_knD (s : Kn) (c k : Nat) : (dget (knD s) (keyN c k)).isSome = decide ((c, k) ∈ s) := by
  induction s with
  | nil => rfl
  | cons x s ih =>
    have e : knD (x :: s) = (keyN x.1 x.2, .d (.bool true)) :: knD s := rfl
    rw [e, dget_cons]
    by_cases h : keyN x.1 x.2 = keyN c k
    · have := keyN_inj h
      rw [if_pos h]
      have e2 : (c, k) = x := Prod.ext this.1.symm this.2.symm
      simp [e2]
    · rw [if_neg h, ih]
      have e2 : ¬ (c, k) = x := fun e => h (by rw [← e])
      simp [e2]
theorem dput_knD (s : Kn) (c k : Nat) : dput (knD s) (keyN c k) (.d (.bool true)) = knD (ins s (c, k)) := by
  unfold dput ins
  rw [dget_knD]
  by_cases h : (c, k) ∈ s
  · rw [if_pos (decide_eq_true h), if_pos h]
    unfold knD
    rw [List.map_map]
    refine List.map_congr_left fun x _ => ?_
    show (if keyN x.1 x.2 = keyN c k then (keyN x.1 x.2, DV.d (.bool true)) else (keyN x.1 x.2, DV.d (.bool true))) = _
    split <;> rfl
  · rw [if_neg (by simp [h]), if_neg h]
    unfold knD
    rw [List.map_append]
    rfl
theorem dmerge_knD : ∀ (t s : Kn), dmerge (knD s) (knD t) = knD (mrg s t)
  | [], s => rfl
  | x :: t, s => by
    have e : dmerge (knD s) (knD (x :: t)) = dmerge (dput (knD s) (keyN x.1 x.2) (.d (.bool true))) (knD t) := rfl
    rw [e, dput_knD, dmerge_knD t]
    rfl
theorem knD_len (s : Kn) : (knD s).length = s.length := by simp [knD]
theorem keyOf_pair (c k : Nat) : keyOf (.d (.tuple [.int c, .int k])) = some (keyN c k) := rfl
theorem keyN_depth (c k : Nat) : (keyN c k).depth ≤ 8 := by simp [keyN, NestedKey.depth, NestedKey.depthAll]
end DL

set_option Elab.async false
set_option linter.all false
set_option maxRecDepth 100000
set_option maxHeartbeats 4000000
namespace DL
open PySem L2 PyProof.Rows
theorem getD_set_eq {α : Type} {xs : List α} {a : Nat} {v d : α} (h : a < xs.length) : (xs.set a v).getD a d = v := by simp [List.getD, h]
theorem getD_set_ne {α : Type} {xs : List α} {a j : Nat} {v d : α} (h : j ≠ a) : (xs.set a v).getD j d = xs.getD j d := by simp only [List.getD, List.getElem?_set_ne (Ne.symm h)]
structure RowsInv (n i : Nat) (st : List Kn × List Nat) : Prop where
  l1 : st.1.length = n
  l2 : st.2.length = n
  kn : ∀ j, j < n → KnOk n i (st.1.getD j [])
  md : ∀ j, j < n → st.2.getD j 0 ≤ i
theorem RowsInv.start (n : Nat) : RowsInv n 0 (List.replicate n [], List.replicate n 0) := by
  refine ⟨by simp, by simp, fun j hj => ?_, fun j hj => ?_⟩
  · simp only [List.getD, List.getElem?_replicate, hj, if_true, Option.getD_some]
    exact KnOk.nil
  · simp [List.getD, hj]
theorem RowsInv.step {n i : Nat} {st : List Kn × List Nat} (h : RowsInv n i st) {act : Act} (ok : act.ok n) : RowsInv n (i + 1) (rowsStep st act) := by
  cases act with
  | make c =>
    have hc : c < n := ok
    refine ⟨by simp [rowsStep, h.l1], by simp [rowsStep, h.l2], fun j hj => ?_, fun j hj => ?_⟩
    · show KnOk n (i + 1) ((st.1.set c (ins (st.1.getD c []) (c, st.2.getD c 0 + 1))).getD j [])
      by_cases e : j = c
      · subst e
        rw [getD_set_eq (by rw [h.l1]; exact hj)]
        exact ((h.kn j hj).mono (by omega)).ins hj (by have := h.md j hj; omega)
      · rw [getD_set_ne e]
        exact (h.kn j hj).mono (by omega)
    · show (st.2.set c (st.2.getD c 0 + 1)).getD j 0 ≤ i + 1
      by_cases e : j = c
      · subst e
        rw [getD_set_eq (by rw [h.l2]; exact hj)]
        have := h.md j hj
        omega
      · rw [getD_set_ne e]
        have := h.md j hj
        omega
  | tell a b =>
    refine ⟨by simp [rowsStep, h.l1], by simp [rowsStep, h.l2], fun j hj => ?_, fun j hj => by have := h.md j hj; show st.2.getD j 0 ≤ i + 1; omega⟩
    show KnOk n (i + 1) ((st.1.set b (mrg (st.1.getD b []) (st.1.getD a []))).getD j [])
    by_cases e : j = b
    · subst e
      rw [getD_set_eq (by rw [h.l1]; exact hj)]
      exact ((h.kn j hj).mono (by omega)).mrg ((h.kn a ok.1).mono (by omega))
    · rw [getD_set_ne e]
      exact (h.kn j hj).mono (by omega)
  | meet a b =>
    refine ⟨by simp [rowsStep, h.l1], by simp [rowsStep, h.l2], fun j hj => ?_, fun j hj => by have := h.md j hj; show st.2.getD j 0 ≤ i + 1; omega⟩
    show KnOk n (i + 1) (((st.1.set b (mrg (st.1.getD b []) (st.1.getD a []))).set a (mrg (st.1.getD a []) (st.1.getD b []))).getD j [])
    by_cases e : j = a
    · subst e
      rw [getD_set_eq (by simp [h.l1]; exact hj)]
      exact ((h.kn j hj).mono (by omega)).mrg ((h.kn b ok.2.1).mono (by omega))
    · rw [getD_set_ne e]
      by_cases e2 : j = b
      · subst e2
        rw [getD_set_eq (by rw [h.l1]; exact hj)]
        exact ((h.kn j hj).mono (by omega)).mrg ((h.kn a ok.1).mono (by omega))
      · rw [getD_set_ne e2]
        exact (h.kn j hj).mono (by omega)
theorem RowsInv.fold {n : Nat} {acts : List Act} (ok : ∀ x ∈ acts, x.ok n) : ∀ i, i ≤ acts.length → RowsInv n i ((acts.take i).foldl rowsStep (List.replicate n [], List.replicate n 0))
  | 0, _ => RowsInv.start n
  | i + 1, h => by
    have hi : acts[i]? = some acts[i] := List.getElem?_eq_getElem (by omega)
    rw [foldl_take hi]
    exact (RowsInv.fold ok i (by omega)).step (ok _ (List.getElem_mem _))
theorem wNeg {i : Int} {M : DM} {Q : DK} (q : Q (.d (.int (-i))) M) : rNegD (.d (.int i)) M Q := ⟨i, rfl, q⟩
theorem natV_get {xs : List Nat} {i : Nat} (h : i < xs.length) : (xs.map fun n : Nat => DV.d (.int n))[i]? = some (.d (.int (xs.getD i 0 : Nat))) := by
  rw [List.getElem?_map, getD_some (d := 0) h]
  rfl
theorem ne_of_val {M : DM} {a b : Addr} {o u : DO} (h1 : M a = some o) (h2 : M b = some u) (h : o ≠ u) : a ≠ b := fun e => h (by rw [e, h2] at h1; injection h1 with h1; exact h1.symm)
theorem cells_get {n : Nat} {c : Nat → Addr} {i : Nat} (h : i < n) : ((List.range n).map fun j => DV.ref (c j))[i]? = some (.ref (c i)) := by
  rw [List.getElem?_map, List.getElem?_range h]
  rfl
theorem upd_knD (w : World) {M : DM} {Q : DK} {x : DV} {a b : Addr} {s t : Kn} {n m : Nat} (e : x = .ref a) (h1 : M a = some (.dN (knD s))) (h2 : M b = some (.dN (knD t))) (ne : a ≠ b) (ks : KnOk n m s) (kt : KnOk n m t) (hn : n ≤ 12) (hm : m ≤ 400)
    (q : Q (.d .none) (put M a (.dN (knD (mrg s t))))) : rUpdN w x [.ref b] M Q := by
  refine ⟨a, _, b, _, e, rfl, h1, h2, ne, .inr (kt.hash w hn hm), ?_, by rw [dmerge_knD]; exact q⟩
  rw [knD_len, knD_len]
  have l1 := ks.len hn hm
  have l2 := kt.len hn hm
  have : 10000 ≤ sizeLine := by decide
  omega
theorem rd__law_rows (w : World) : ∀ ds M Q, sp__law_rows ds M Q → w__law_rows w { nx := fun _ M' => Q (.d .none) M', rt := Q } (dstart N__law_rows ds) M := by
  rintro ds M Q ⟨n, acts, rfl, hn1, hn2, hlen, hok, q⟩
  unfold w__law_rows
  (repeat (with_reducible (first | refine wSeq ?_ | refine wAsg ?_ | refine wRet ?_ | refine wDrop ?_ | refine wName ?_ | (apply wVar; (case h => with_unfolding_all rfl)) | refine wC ?_ | refine wOp ?_ | refine wUn ?_ | refine wNil ?_ | refine wCons ?_ | refine wCB ?_ | refine wCall ?_ | refine wTest ?_ | refine wBool ?_ | refine wInt ?_ | refine wIfS ?_ | refine wIf ?_ | refine wAnd ?_ | refine wOr ?_ | refine wNot ?_ | refine wAndV ?_ | refine wOrV ?_ | refine wNotV ?_ | refine wTup ?_ | refine wLst ?_ | refine wLstF ?_ | refine wSl ?_ | refine wNoPart ?_ | refine wPart ?_ | refine wBM ?_ | refine wSub ?_ | refine wFor ?_ | refine wIterL ?_ | refine wRng1 ?_ | refine wZip ?_ | refine wLc ?_ | refine wLcF ?_ | refine wYes ?_ | refine wAddI ?_ | refine wIntT ?_ | refine wInt1 ?_ | refine wInt2 ?_ | refine wNext ?_)))
  refine ⟨_, rfl, by omega, by omega, ?_⟩
  rw [Int.toNat_natCast]
  have rl : (rng 0 n).length = n := by simp [rng]
  refine lcW_objs (fun _ => .dN (knD [])) (lenOk (by rw [rl]; omega)) (fun _ _ => trivial) (fun i x M' hx ext K hK => ?_) fun c M1 ext1 hc inj => ?_
  · (repeat (with_reducible (first | refine wSeq ?_ | refine wAsg ?_ | refine wRet ?_ | refine wDrop ?_ | refine wName ?_ | (apply wVar; (case h => with_unfolding_all rfl)) | refine wC ?_ | refine wOp ?_ | refine wUn ?_ | refine wNil ?_ | refine wCons ?_ | refine wCB ?_ | refine wCall ?_ | refine wTest ?_ | refine wBool ?_ | refine wInt ?_ | refine wIfS ?_ | refine wIf ?_ | refine wAnd ?_ | refine wOr ?_ | refine wNot ?_ | refine wAndV ?_ | refine wOrV ?_ | refine wNotV ?_ | refine wTup ?_ | refine wLst ?_ | refine wLstF ?_ | refine wSl ?_ | refine wNoPart ?_ | refine wPart ?_ | refine wBM ?_ | refine wSub ?_ | refine wFor ?_ | refine wIterL ?_ | refine wRng1 ?_ | refine wZip ?_ | refine wLc ?_ | refine wLcF ?_ | refine wYes ?_ | refine wAddI ?_ | refine wIntT ?_ | refine wInt1 ?_ | refine wInt2 ?_ | refine wNext ?_)))
    exact hK
  rw [rl]
  rw [rl] at hc inj
  intro r0 hr0
  (repeat (with_reducible (first | refine wSeq ?_ | refine wAsg ?_ | refine wRet ?_ | refine wDrop ?_ | refine wName ?_ | (apply wVar; (case h => with_unfolding_all rfl)) | refine wC ?_ | refine wOp ?_ | refine wUn ?_ | refine wNil ?_ | refine wCons ?_ | refine wCB ?_ | refine wCall ?_ | refine wTest ?_ | refine wBool ?_ | refine wInt ?_ | refine wIfS ?_ | refine wIf ?_ | refine wAnd ?_ | refine wOr ?_ | refine wNot ?_ | refine wAndV ?_ | refine wOrV ?_ | refine wNotV ?_ | refine wTup ?_ | refine wLst ?_ | refine wLstF ?_ | refine wSl ?_ | refine wNoPart ?_ | refine wPart ?_ | refine wBM ?_ | refine wSub ?_ | refine wFor ?_ | refine wIterL ?_ | refine wRng1 ?_ | refine wZip ?_ | refine wLc ?_ | refine wLcF ?_ | refine wYes ?_ | refine wAddI ?_ | refine wIntT ?_ | refine wInt1 ?_ | refine wInt2 ?_ | refine wNext ?_)))
  refine ⟨lenOk (by simp), fun p hp => ?_⟩
  (repeat (with_reducible (first | refine wSeq ?_ | refine wAsg ?_ | refine wRet ?_ | refine wDrop ?_ | refine wName ?_ | (apply wVar; (case h => with_unfolding_all rfl)) | refine wC ?_ | refine wOp ?_ | refine wUn ?_ | refine wNil ?_ | refine wCons ?_ | refine wCB ?_ | refine wCall ?_ | refine wTest ?_ | refine wBool ?_ | refine wInt ?_ | refine wIfS ?_ | refine wIf ?_ | refine wAnd ?_ | refine wOr ?_ | refine wNot ?_ | refine wAndV ?_ | refine wOrV ?_ | refine wNotV ?_ | refine wTup ?_ | refine wLst ?_ | refine wLstF ?_ | refine wSl ?_ | refine wNoPart ?_ | refine wPart ?_ | refine wBM ?_ | refine wSub ?_ | refine wFor ?_ | refine wIterL ?_ | refine wRng1 ?_ | refine wZip ?_ | refine wLc ?_ | refine wLcF ?_ | refine wYes ?_ | refine wAddI ?_ | refine wIntT ?_ | refine wInt1 ?_ | refine wInt2 ?_ | refine wNext ?_)))
  refine ⟨lenOk (by simp), fun q1 hq1 => ?_⟩
  (repeat (with_reducible (first | refine wSeq ?_ | refine wAsg ?_ | refine wRet ?_ | refine wDrop ?_ | refine wName ?_ | (apply wVar; (case h => with_unfolding_all rfl)) | refine wC ?_ | refine wOp ?_ | refine wUn ?_ | refine wNil ?_ | refine wCons ?_ | refine wCB ?_ | refine wCall ?_ | refine wTest ?_ | refine wBool ?_ | refine wInt ?_ | refine wIfS ?_ | refine wIf ?_ | refine wAnd ?_ | refine wOr ?_ | refine wNot ?_ | refine wAndV ?_ | refine wOrV ?_ | refine wNotV ?_ | refine wTup ?_ | refine wLst ?_ | refine wLstF ?_ | refine wSl ?_ | refine wNoPart ?_ | refine wPart ?_ | refine wBM ?_ | refine wSub ?_ | refine wFor ?_ | refine wIterL ?_ | refine wRng1 ?_ | refine wZip ?_ | refine wLc ?_ | refine wLcF ?_ | refine wYes ?_ | refine wAddI ?_ | refine wIntT ?_ | refine wInt1 ?_ | refine wInt2 ?_ | refine wNext ?_)))
  refine wMulL (lstOf_ref put_same) (by omega) fun qa hqa => ?_
  (repeat (with_reducible (first | refine wAsg ?_ | refine wRet ?_ | refine wDrop ?_ | refine wName ?_ | (apply wVar; (case h => with_unfolding_all rfl)) | refine wC ?_ | refine wOp ?_ | refine wUn ?_ | refine wNil ?_ | refine wCons ?_ | refine wCB ?_ | refine wCall ?_ | refine wTest ?_ | refine wBool ?_ | refine wInt ?_ | refine wIfS ?_ | refine wIf ?_ | refine wAnd ?_ | refine wOr ?_ | refine wNot ?_ | refine wAndV ?_ | refine wOrV ?_ | refine wNotV ?_ | refine wTup ?_ | refine wLst ?_ | refine wLstF ?_ | refine wSl ?_ | refine wNoPart ?_ | refine wPart ?_ | refine wBM ?_ | refine wSub ?_ | refine wFor ?_ | refine wIterL ?_ | refine wRng1 ?_ | refine wZip ?_ | refine wLc ?_ | refine wLcF ?_ | refine wYes ?_ | refine wAddI ?_ | refine wIntT ?_ | refine wInt1 ?_ | refine wInt2 ?_ | refine wNext ?_)))
  with_reducible refine wSeq ?_
  (repeat (with_reducible (first | refine wSeq ?_ | refine wAsg ?_ | refine wRet ?_ | refine wDrop ?_ | refine wName ?_ | (apply wVar; (case h => with_unfolding_all rfl)) | refine wC ?_ | refine wOp ?_ | refine wUn ?_ | refine wNil ?_ | refine wCons ?_ | refine wCB ?_ | refine wCall ?_ | refine wTest ?_ | refine wBool ?_ | refine wInt ?_ | refine wIfS ?_ | refine wIf ?_ | refine wAnd ?_ | refine wOr ?_ | refine wNot ?_ | refine wAndV ?_ | refine wOrV ?_ | refine wNotV ?_ | refine wTup ?_ | refine wLst ?_ | refine wLstF ?_ | refine wSl ?_ | refine wNoPart ?_ | refine wPart ?_ | refine wBM ?_ | refine wSub ?_ | refine wFor ?_ | refine wIterL ?_ | refine wRng1 ?_ | refine wZip ?_ | refine wLc ?_ | refine wLcF ?_ | refine wYes ?_ | refine wAddI ?_ | refine wIntT ?_ | refine wInt1 ?_ | refine wInt2 ?_ | refine wNext ?_)))
  refine ⟨_, rfl, ?_⟩
  have hMp : M p = none := (ext1.trans (Ext.new hr0 _)).free hp
  have hMq : M qa = none := ((ext1.trans (Ext.new hr0 _)).trans ((Ext.new hp _).trans (Ext.new hq1 _))).free hqa
  have npq : p ≠ qa := Ext.ne hqa (Ext.new hq1 _ _ _ put_same)
  refine forW_inv (fun i ρ M' => ∃ (more : List DV) (r : Addr) (c : Nat → Addr) (x4 x5 x6 x7 : Option DV), Ext M M' ∧ M' p = some (.lst (more ++ [.ref r])) ∧ more.length ≤ i ∧ M' r = some (.lst ((List.range n).map fun j => .ref (c j))) ∧
      (∀ j, j < n → M' (c j) = some (.dN (knD (((acts.take i).foldl rowsStep (List.replicate n [], List.replicate n 0)).1.getD j [])))) ∧ M' qa = some (.lst (((acts.take i).foldl rowsStep (List.replicate n [], List.replicate n 0)).2.map fun n : Nat => .d (.int n))) ∧
      ρ = [some (.d (.int n)), some (.d (actsD acts)), some (.ref p), some (.ref qa), x4, x5, x6, x7]) ?_ ?_ ?_
  · refine ⟨[], r0, c, none, none, none, none, ?_, ?_, by simp, ?_, fun j hj => ?_, ?_, rfl⟩
    · exact (ext1.trans (Ext.new hr0 _)).trans ((Ext.new hp _).trans ((Ext.new hq1 _).trans (Ext.new hqa _)))
    · exact ((Ext.new hq1 _).trans (Ext.new hqa _)) _ _ put_same
    · exact ((Ext.new hp _).trans ((Ext.new hq1 _).trans (Ext.new hqa _))) _ _ put_same
    · have z : (List.replicate n ([] : Kn)).getD j [] = [] := by simp [List.getD, hj]
      show _ = some (DO.dN (knD ((List.replicate n ([] : Kn)).getD j [])))
      rw [z]
      exact ((Ext.new hr0 _).trans ((Ext.new hp _).trans ((Ext.new hq1 _).trans (Ext.new hqa _)))) _ _ (hc j hj).2
    · rw [put_same]
      simp
  · rintro i x ρ M' hx ⟨more, r, c, x4, x5, x6, x7, ext, hp', hml, hr, hcell, hqa', rfl⟩
    refine ⟨rfl, fun K hK => ?_⟩
    obtain ⟨act, ha, rfl⟩ : ∃ act, acts[i]? = some act ∧ x = .d act.data := by
      rw [List.getElem?_map, List.getElem?_map] at hx
      cases e : acts[i]? with
      | none => rw [e] at hx; simp at hx
      | some a => rw [e] at hx; exact ⟨a, rfl, (Option.some.inj hx).symm⟩
    have hi : i < acts.length := (List.getElem?_eq_some_iff.mp ha).1
    have aok : act.ok n := hok act (List.mem_of_getElem? ha)
    have inv := RowsInv.fold hok i (by omega)
    have inv' := inv.step aok
    have stepE : (acts.take (i + 1)).foldl rowsStep (List.replicate n [], List.replicate n 0) = rowsStep ((acts.take i).foldl rowsStep (List.replicate n [], List.replicate n 0)) act := foldl_take ha
    rw [stepE] at hK
    generalize (acts.take i).foldl rowsStep (List.replicate n [], List.replicate n 0) = st at *
    (repeat (with_reducible (first | refine wSeq ?_ | refine wAsg ?_ | refine wRet ?_ | refine wDrop ?_ | refine wName ?_ | (apply wVar; (case h => with_unfolding_all rfl)) | refine wC ?_ | refine wOp ?_ | refine wUn ?_ | refine wNil ?_ | refine wCons ?_ | refine wCB ?_ | refine wCall ?_ | refine wTest ?_ | refine wBool ?_ | refine wInt ?_ | refine wIfS ?_ | refine wIf ?_ | refine wAnd ?_ | refine wOr ?_ | refine wNot ?_ | refine wAndV ?_ | refine wOrV ?_ | refine wNotV ?_ | refine wTup ?_ | refine wLst ?_ | refine wLstF ?_ | refine wSl ?_ | refine wNoPart ?_ | refine wPart ?_ | refine wBM ?_ | refine wSub ?_ | refine wFor ?_ | refine wIterL ?_ | refine wRng1 ?_ | refine wZip ?_ | refine wLc ?_ | refine wLcF ?_ | refine wYes ?_ | refine wAddI ?_ | refine wIntT ?_ | refine wInt1 ?_ | refine wInt2 ?_ | refine wNext ?_)))
    refine wNeg ?_
    refine wIxLast (seqOf_ref hp') ?_
    refine ⟨_, listOf_ref hr, ?_⟩
    have cl : ((List.range n).map fun j => DV.ref (c j)).length = n := by simp
    refine lcW_objs (fun j => .dN (knD (st.1.getD j []))) (lenOk (by rw [cl]; omega)) (fun M'' e => listOf_ref (e _ _ hr)) (fun j x M'' hx e K2 hK2 => ?_) fun c' M2 ext2 hc' inj' => ?_
    · have hj : j < n := by
        obtain ⟨h, _⟩ := List.getElem?_eq_some_iff.mp hx
        simpa using h
      rw [cells_get hj] at hx
      obtain rfl := Option.some.inj hx
      (repeat (with_reducible (first | refine wSeq ?_ | refine wAsg ?_ | refine wRet ?_ | refine wDrop ?_ | refine wName ?_ | (apply wVar; (case h => with_unfolding_all rfl)) | refine wC ?_ | refine wOp ?_ | refine wUn ?_ | refine wNil ?_ | refine wCons ?_ | refine wCB ?_ | refine wCall ?_ | refine wTest ?_ | refine wBool ?_ | refine wInt ?_ | refine wIfS ?_ | refine wIf ?_ | refine wAnd ?_ | refine wOr ?_ | refine wNot ?_ | refine wAndV ?_ | refine wOrV ?_ | refine wNotV ?_ | refine wTup ?_ | refine wLst ?_ | refine wLstF ?_ | refine wSl ?_ | refine wNoPart ?_ | refine wPart ?_ | refine wBM ?_ | refine wSub ?_ | refine wFor ?_ | refine wIterL ?_ | refine wRng1 ?_ | refine wZip ?_ | refine wLc ?_ | refine wLcF ?_ | refine wYes ?_ | refine wAddI ?_ | refine wIntT ?_ | refine wInt1 ?_ | refine wInt2 ?_ | refine wNext ?_)))
      exact ⟨c j, _, rfl, e _ _ (hcell j hj), (inv.kn j hj).hash w hn2 (by omega), fun r hr => hK2 r hr⟩
    rw [cl]
    rw [cl] at hc' inj'
    intro k hk
    have kp : k ≠ p := fun e => by rw [e, ext2 _ _ hp'] at hk; cases hk
    have kq : k ≠ qa := fun e => by rw [e, ext2 _ _ hqa'] at hk; cases hk
    have kc : ∀ j, j < n → c' j ≠ k := fun j hj e => by rw [← e, (hc' j hj).2] at hk; cases hk
    have cp : ∀ j, j < n → c' j ≠ p := fun j hj e => by have := (hc' j hj).1; rw [e, hp'] at this; cases this
    have cq : ∀ j, j < n → c' j ≠ qa := fun j hj e => by have := (hc' j hj).1; rw [e, hqa'] at this; cases this
    have rk : r ≠ k := Ext.ne hk (ext2 _ _ hr)
    have rc : ∀ j, j < n → r ≠ c' j := fun j hj => Ext.ne (hc' j hj).1 hr
    have ck : ∀ j, j < n → c j ≠ k := fun j hj => Ext.ne hk (ext2 _ _ (hcell j hj))
    have cc : ∀ j l, j < n → l < n → c j ≠ c' l := fun j l hj hl => Ext.ne (hc' l hl).1 (hcell j hj)
    have extk : Ext M (put M2 k (.lst ((List.range n).map fun j => .ref (c' j)))) := (ext.trans ext2).trans (Ext.new hk _)
    have fresh : ∀ j, j < n → M (c' j) = none := fun j hj => ext.free (hc' j hj).1
    have zl : (more ++ [DV.ref r]).length < sizeLine := by
      have : 1000 ≤ sizeLine := by decide
      simp
      omega
    have fin : ∀ (M3 : DM) (x6 x7 : Option DV), Ext M M3 → M3 p = some (.lst (more ++ [.ref r])) → M3 k = some (.lst ((List.range n).map fun j => .ref (c' j))) → (∀ j, j < n → M3 (c' j) = some (.dN (knD ((rowsStep st act).1.getD j [])))) → M3 qa = some (.lst ((rowsStep st act).2.map fun n : Nat => .d (.int n))) →
        (dDrop (dBM isLst rAppendD (dVar 2) (dCons (dVar 5) dNil))) { nx := K, rt := Q, bk := (fun _ _ => False), ct := K } [some (.d (.int n)), some (.d (actsD acts)), some (.ref p), some (.ref qa), some (.d act.data), some (.ref k), x6, x7] M3 := by
      intro M3 x6 x7 e1 e2 e3 e4 e5
      (repeat (with_reducible (first | refine wSeq ?_ | refine wAsg ?_ | refine wRet ?_ | refine wDrop ?_ | refine wName ?_ | (apply wVar; (case h => with_unfolding_all rfl)) | refine wC ?_ | refine wOp ?_ | refine wUn ?_ | refine wNil ?_ | refine wCons ?_ | refine wCB ?_ | refine wCall ?_ | refine wTest ?_ | refine wBool ?_ | refine wInt ?_ | refine wIfS ?_ | refine wIf ?_ | refine wAnd ?_ | refine wOr ?_ | refine wNot ?_ | refine wAndV ?_ | refine wOrV ?_ | refine wNotV ?_ | refine wTup ?_ | refine wLst ?_ | refine wLstF ?_ | refine wSl ?_ | refine wNoPart ?_ | refine wPart ?_ | refine wBM ?_ | refine wSub ?_ | refine wFor ?_ | refine wIterL ?_ | refine wRng1 ?_ | refine wZip ?_ | refine wLc ?_ | refine wLcF ?_ | refine wYes ?_ | refine wAddI ?_ | refine wIntT ?_ | refine wInt1 ?_ | refine wInt2 ?_ | refine wNext ?_)))
      refine ⟨isLst_ref e2, ?_⟩
      (repeat (with_reducible (first | refine wSeq ?_ | refine wAsg ?_ | refine wRet ?_ | refine wDrop ?_ | refine wName ?_ | (apply wVar; (case h => with_unfolding_all rfl)) | refine wC ?_ | refine wOp ?_ | refine wUn ?_ | refine wNil ?_ | refine wCons ?_ | refine wCB ?_ | refine wCall ?_ | refine wTest ?_ | refine wBool ?_ | refine wInt ?_ | refine wIfS ?_ | refine wIf ?_ | refine wAnd ?_ | refine wOr ?_ | refine wNot ?_ | refine wAndV ?_ | refine wOrV ?_ | refine wNotV ?_ | refine wTup ?_ | refine wLst ?_ | refine wLstF ?_ | refine wSl ?_ | refine wNoPart ?_ | refine wPart ?_ | refine wBM ?_ | refine wSub ?_ | refine wFor ?_ | refine wIterL ?_ | refine wRng1 ?_ | refine wZip ?_ | refine wLc ?_ | refine wLcF ?_ | refine wYes ?_ | refine wAddI ?_ | refine wIntT ?_ | refine wInt1 ?_ | refine wInt2 ?_ | refine wNext ?_)))
      refine wAppend rfl e2 zl ?_
      refine hK _ _ ⟨more ++ [.ref r], k, c', _, _, _, _, e1.put hMp _, put_same, by simp; exact hml, by rw [put_ne kp]; exact e3, fun j hj => by rw [put_ne (cp j hj)]; exact e4 j hj, by rw [put_ne npq.symm]; exact e5, rfl⟩
    have kn := inv.kn
    cases act with
    | make a =>
      have ha' : a < n := aok
      (repeat (with_reducible (first | refine wSeq ?_ | refine wAsg ?_ | refine wRet ?_ | refine wDrop ?_ | refine wName ?_ | (apply wVar; (case h => with_unfolding_all rfl)) | refine wC ?_ | refine wOp ?_ | refine wUn ?_ | refine wNil ?_ | refine wCons ?_ | refine wCB ?_ | refine wCall ?_ | refine wTest ?_ | refine wBool ?_ | refine wInt ?_ | refine wIfS ?_ | refine wIf ?_ | refine wAnd ?_ | refine wOr ?_ | refine wNot ?_ | refine wAndV ?_ | refine wOrV ?_ | refine wNotV ?_ | refine wTup ?_ | refine wLst ?_ | refine wLstF ?_ | refine wSl ?_ | refine wNoPart ?_ | refine wPart ?_ | refine wBM ?_ | refine wSub ?_ | refine wFor ?_ | refine wIterL ?_ | refine wRng1 ?_ | refine wZip ?_ | refine wLc ?_ | refine wLcF ?_ | refine wYes ?_ | refine wAddI ?_ | refine wIntT ?_ | refine wInt1 ?_ | refine wInt2 ?_ | refine wNext ?_)))
      refine wIx 0 (d := .d (.str "make")) seqOf_tup rfl rfl ?_
      (repeat (with_reducible (first | refine wSeq ?_ | refine wAsg ?_ | refine wRet ?_ | refine wDrop ?_ | refine wName ?_ | (apply wVar; (case h => with_unfolding_all rfl)) | refine wC ?_ | refine wOp ?_ | refine wUn ?_ | refine wNil ?_ | refine wCons ?_ | refine wCB ?_ | refine wCall ?_ | refine wTest ?_ | refine wBool ?_ | refine wInt ?_ | refine wIfS ?_ | refine wIf ?_ | refine wAnd ?_ | refine wOr ?_ | refine wNot ?_ | refine wAndV ?_ | refine wOrV ?_ | refine wNotV ?_ | refine wTup ?_ | refine wLst ?_ | refine wLstF ?_ | refine wSl ?_ | refine wNoPart ?_ | refine wPart ?_ | refine wBM ?_ | refine wSub ?_ | refine wFor ?_ | refine wIterL ?_ | refine wRng1 ?_ | refine wZip ?_ | refine wLc ?_ | refine wLcF ?_ | refine wYes ?_ | refine wAddI ?_ | refine wIntT ?_ | refine wInt1 ?_ | refine wInt2 ?_ | refine wNext ?_)))
      refine wEqS ?_
      (repeat (with_reducible (first | refine wSeq ?_ | refine wAsg ?_ | refine wRet ?_ | refine wDrop ?_ | refine wName ?_ | (apply wVar; (case h => with_unfolding_all rfl)) | refine wC ?_ | refine wOp ?_ | refine wUn ?_ | refine wNil ?_ | refine wCons ?_ | refine wCB ?_ | refine wCall ?_ | refine wTest ?_ | refine wBool ?_ | refine wInt ?_ | refine wIfS ?_ | refine wIf ?_ | refine wAnd ?_ | refine wOr ?_ | refine wNot ?_ | refine wAndV ?_ | refine wOrV ?_ | refine wNotV ?_ | refine wTup ?_ | refine wLst ?_ | refine wLstF ?_ | refine wSl ?_ | refine wNoPart ?_ | refine wPart ?_ | refine wBM ?_ | refine wSub ?_ | refine wFor ?_ | refine wIterL ?_ | refine wRng1 ?_ | refine wZip ?_ | refine wLc ?_ | refine wLcF ?_ | refine wYes ?_ | refine wAddI ?_ | refine wIntT ?_ | refine wInt1 ?_ | refine wInt2 ?_ | refine wNext ?_)))
      rw [if_pos (by simp)]
      (repeat (with_reducible (first | refine wSeq ?_ | refine wAsg ?_ | refine wRet ?_ | refine wDrop ?_ | refine wName ?_ | (apply wVar; (case h => with_unfolding_all rfl)) | refine wC ?_ | refine wOp ?_ | refine wUn ?_ | refine wNil ?_ | refine wCons ?_ | refine wCB ?_ | refine wCall ?_ | refine wTest ?_ | refine wBool ?_ | refine wInt ?_ | refine wIfS ?_ | refine wIf ?_ | refine wAnd ?_ | refine wOr ?_ | refine wNot ?_ | refine wAndV ?_ | refine wOrV ?_ | refine wNotV ?_ | refine wTup ?_ | refine wLst ?_ | refine wLstF ?_ | refine wSl ?_ | refine wNoPart ?_ | refine wPart ?_ | refine wBM ?_ | refine wSub ?_ | refine wFor ?_ | refine wIterL ?_ | refine wRng1 ?_ | refine wZip ?_ | refine wLc ?_ | refine wLcF ?_ | refine wYes ?_ | refine wAddI ?_ | refine wIntT ?_ | refine wInt1 ?_ | refine wInt2 ?_ | refine wNext ?_)))
      refine wIx 1 (d := .d (.int a)) seqOf_tup rfl rfl ?_
      (repeat (with_reducible (first | refine wSeq ?_ | refine wAsg ?_ | refine wRet ?_ | refine wDrop ?_ | refine wName ?_ | (apply wVar; (case h => with_unfolding_all rfl)) | refine wC ?_ | refine wOp ?_ | refine wUn ?_ | refine wNil ?_ | refine wCons ?_ | refine wCB ?_ | refine wCall ?_ | refine wTest ?_ | refine wBool ?_ | refine wInt ?_ | refine wIfS ?_ | refine wIf ?_ | refine wAnd ?_ | refine wOr ?_ | refine wNot ?_ | refine wAndV ?_ | refine wOrV ?_ | refine wNotV ?_ | refine wTup ?_ | refine wLst ?_ | refine wLstF ?_ | refine wSl ?_ | refine wNoPart ?_ | refine wPart ?_ | refine wBM ?_ | refine wSub ?_ | refine wFor ?_ | refine wIterL ?_ | refine wRng1 ?_ | refine wZip ?_ | refine wLc ?_ | refine wLcF ?_ | refine wYes ?_ | refine wAddI ?_ | refine wIntT ?_ | refine wInt1 ?_ | refine wInt2 ?_ | refine wNext ?_)))
      refine wIx a (seqOf_ref (by rw [put_ne kq.symm]; exact ext2 _ _ hqa')) (natV_get (by rw [inv.l2]; exact ha')) rfl ?_
      (repeat (with_reducible (first | refine wSeq ?_ | refine wAsg ?_ | refine wRet ?_ | refine wDrop ?_ | refine wName ?_ | (apply wVar; (case h => with_unfolding_all rfl)) | refine wC ?_ | refine wOp ?_ | refine wUn ?_ | refine wNil ?_ | refine wCons ?_ | refine wCB ?_ | refine wCall ?_ | refine wTest ?_ | refine wBool ?_ | refine wInt ?_ | refine wIfS ?_ | refine wIf ?_ | refine wAnd ?_ | refine wOr ?_ | refine wNot ?_ | refine wAndV ?_ | refine wOrV ?_ | refine wNotV ?_ | refine wTup ?_ | refine wLst ?_ | refine wLstF ?_ | refine wSl ?_ | refine wNoPart ?_ | refine wPart ?_ | refine wBM ?_ | refine wSub ?_ | refine wFor ?_ | refine wIterL ?_ | refine wRng1 ?_ | refine wZip ?_ | refine wLc ?_ | refine wLcF ?_ | refine wYes ?_ | refine wAddI ?_ | refine wIntT ?_ | refine wInt1 ?_ | refine wInt2 ?_ | refine wNext ?_)))
      refine wIx 1 (d := .d (.int a)) seqOf_tup rfl rfl ?_
      (repeat (with_reducible (first | refine wSeq ?_ | refine wAsg ?_ | refine wRet ?_ | refine wDrop ?_ | refine wName ?_ | (apply wVar; (case h => with_unfolding_all rfl)) | refine wC ?_ | refine wOp ?_ | refine wUn ?_ | refine wNil ?_ | refine wCons ?_ | refine wCB ?_ | refine wCall ?_ | refine wTest ?_ | refine wBool ?_ | refine wInt ?_ | refine wIfS ?_ | refine wIf ?_ | refine wAnd ?_ | refine wOr ?_ | refine wNot ?_ | refine wAndV ?_ | refine wOrV ?_ | refine wNotV ?_ | refine wTup ?_ | refine wLst ?_ | refine wLstF ?_ | refine wSl ?_ | refine wNoPart ?_ | refine wPart ?_ | refine wBM ?_ | refine wSub ?_ | refine wFor ?_ | refine wIterL ?_ | refine wRng1 ?_ | refine wZip ?_ | refine wLc ?_ | refine wLcF ?_ | refine wYes ?_ | refine wAddI ?_ | refine wIntT ?_ | refine wInt1 ?_ | refine wInt2 ?_ | refine wNext ?_)))
      refine wSetL a rfl (by rw [put_ne kq.symm]; exact ext2 _ _ hqa') (by simp [inv.l2]; exact ha') rfl ?_
      have setE : (st.2.map fun n : Nat => DV.d (.int n)).set a (.d (.int ((st.2.getD a 0 : Nat) + 1))) = (st.2.set a (st.2.getD a 0 + 1)).map fun n : Nat => DV.d (.int n) := by
        rw [List.map_set]
        rfl
      rw [setE]
      (repeat (with_reducible (first | refine wSeq ?_ | refine wAsg ?_ | refine wRet ?_ | refine wDrop ?_ | refine wName ?_ | (apply wVar; (case h => with_unfolding_all rfl)) | refine wC ?_ | refine wOp ?_ | refine wUn ?_ | refine wNil ?_ | refine wCons ?_ | refine wCB ?_ | refine wCall ?_ | refine wTest ?_ | refine wBool ?_ | refine wInt ?_ | refine wIfS ?_ | refine wIf ?_ | refine wAnd ?_ | refine wOr ?_ | refine wNot ?_ | refine wAndV ?_ | refine wOrV ?_ | refine wNotV ?_ | refine wTup ?_ | refine wLst ?_ | refine wLstF ?_ | refine wSl ?_ | refine wNoPart ?_ | refine wPart ?_ | refine wBM ?_ | refine wSub ?_ | refine wFor ?_ | refine wIterL ?_ | refine wRng1 ?_ | refine wZip ?_ | refine wLc ?_ | refine wLcF ?_ | refine wYes ?_ | refine wAddI ?_ | refine wIntT ?_ | refine wInt1 ?_ | refine wInt2 ?_ | refine wNext ?_)))
      refine wIx 1 (d := .d (.int a)) seqOf_tup rfl rfl ?_
      (repeat (with_reducible (first | refine wSeq ?_ | refine wAsg ?_ | refine wRet ?_ | refine wDrop ?_ | refine wName ?_ | (apply wVar; (case h => with_unfolding_all rfl)) | refine wC ?_ | refine wOp ?_ | refine wUn ?_ | refine wNil ?_ | refine wCons ?_ | refine wCB ?_ | refine wCall ?_ | refine wTest ?_ | refine wBool ?_ | refine wInt ?_ | refine wIfS ?_ | refine wIf ?_ | refine wAnd ?_ | refine wOr ?_ | refine wNot ?_ | refine wAndV ?_ | refine wOrV ?_ | refine wNotV ?_ | refine wTup ?_ | refine wLst ?_ | refine wLstF ?_ | refine wSl ?_ | refine wNoPart ?_ | refine wPart ?_ | refine wBM ?_ | refine wSub ?_ | refine wFor ?_ | refine wIterL ?_ | refine wRng1 ?_ | refine wZip ?_ | refine wLc ?_ | refine wLcF ?_ | refine wYes ?_ | refine wAddI ?_ | refine wIntT ?_ | refine wInt1 ?_ | refine wInt2 ?_ | refine wNext ?_)))
      refine wIx a (seqOf_ref (by rw [put_ne kq, put_same])) (cells_get ha') rfl ?_
      (repeat (with_reducible (first | refine wSeq ?_ | refine wAsg ?_ | refine wRet ?_ | refine wDrop ?_ | refine wName ?_ | (apply wVar; (case h => with_unfolding_all rfl)) | refine wC ?_ | refine wOp ?_ | refine wUn ?_ | refine wNil ?_ | refine wCons ?_ | refine wCB ?_ | refine wCall ?_ | refine wTest ?_ | refine wBool ?_ | refine wInt ?_ | refine wIfS ?_ | refine wIf ?_ | refine wAnd ?_ | refine wOr ?_ | refine wNot ?_ | refine wAndV ?_ | refine wOrV ?_ | refine wNotV ?_ | refine wTup ?_ | refine wLst ?_ | refine wLstF ?_ | refine wSl ?_ | refine wNoPart ?_ | refine wPart ?_ | refine wBM ?_ | refine wSub ?_ | refine wFor ?_ | refine wIterL ?_ | refine wRng1 ?_ | refine wZip ?_ | refine wLc ?_ | refine wLcF ?_ | refine wYes ?_ | refine wAddI ?_ | refine wIntT ?_ | refine wInt1 ?_ | refine wInt2 ?_ | refine wNext ?_)))
      refine wIx 1 (d := .d (.int a)) seqOf_tup rfl rfl ?_
      (repeat (with_reducible (first | refine wSeq ?_ | refine wAsg ?_ | refine wRet ?_ | refine wDrop ?_ | refine wName ?_ | (apply wVar; (case h => with_unfolding_all rfl)) | refine wC ?_ | refine wOp ?_ | refine wUn ?_ | refine wNil ?_ | refine wCons ?_ | refine wCB ?_ | refine wCall ?_ | refine wTest ?_ | refine wBool ?_ | refine wInt ?_ | refine wIfS ?_ | refine wIf ?_ | refine wAnd ?_ | refine wOr ?_ | refine wNot ?_ | refine wAndV ?_ | refine wOrV ?_ | refine wNotV ?_ | refine wTup ?_ | refine wLst ?_ | refine wLstF ?_ | refine wSl ?_ | refine wNoPart ?_ | refine wPart ?_ | refine wBM ?_ | refine wSub ?_ | refine wFor ?_ | refine wIterL ?_ | refine wRng1 ?_ | refine wZip ?_ | refine wLc ?_ | refine wLcF ?_ | refine wYes ?_ | refine wAddI ?_ | refine wIntT ?_ | refine wInt1 ?_ | refine wInt2 ?_ | refine wNext ?_)))
      refine wIx 1 (d := .d (.int a)) seqOf_tup rfl rfl ?_
      (repeat (with_reducible (first | refine wSeq ?_ | refine wAsg ?_ | refine wRet ?_ | refine wDrop ?_ | refine wName ?_ | (apply wVar; (case h => with_unfolding_all rfl)) | refine wC ?_ | refine wOp ?_ | refine wUn ?_ | refine wNil ?_ | refine wCons ?_ | refine wCB ?_ | refine wCall ?_ | refine wTest ?_ | refine wBool ?_ | refine wInt ?_ | refine wIfS ?_ | refine wIf ?_ | refine wAnd ?_ | refine wOr ?_ | refine wNot ?_ | refine wAndV ?_ | refine wOrV ?_ | refine wNotV ?_ | refine wTup ?_ | refine wLst ?_ | refine wLstF ?_ | refine wSl ?_ | refine wNoPart ?_ | refine wPart ?_ | refine wBM ?_ | refine wSub ?_ | refine wFor ?_ | refine wIterL ?_ | refine wRng1 ?_ | refine wZip ?_ | refine wLc ?_ | refine wLcF ?_ | refine wYes ?_ | refine wAddI ?_ | refine wIntT ?_ | refine wInt1 ?_ | refine wInt2 ?_ | refine wNext ?_)))
      refine wIx a (seqOf_ref put_same) (natV_get (by simp [inv.l2]; exact ha')) rfl ?_
      rw [getD_set_eq (by rw [inv.l2]; exact ha')]
      (repeat (with_reducible (first | refine wSeq ?_ | refine wAsg ?_ | refine wRet ?_ | refine wDrop ?_ | refine wName ?_ | (apply wVar; (case h => with_unfolding_all rfl)) | refine wC ?_ | refine wOp ?_ | refine wUn ?_ | refine wNil ?_ | refine wCons ?_ | refine wCB ?_ | refine wCall ?_ | refine wTest ?_ | refine wBool ?_ | refine wInt ?_ | refine wIfS ?_ | refine wIf ?_ | refine wAnd ?_ | refine wOr ?_ | refine wNot ?_ | refine wAndV ?_ | refine wOrV ?_ | refine wNotV ?_ | refine wTup ?_ | refine wLst ?_ | refine wLstF ?_ | refine wSl ?_ | refine wNoPart ?_ | refine wPart ?_ | refine wBM ?_ | refine wSub ?_ | refine wFor ?_ | refine wIterL ?_ | refine wRng1 ?_ | refine wZip ?_ | refine wLc ?_ | refine wLcF ?_ | refine wYes ?_ | refine wAddI ?_ | refine wIntT ?_ | refine wInt1 ?_ | refine wInt2 ?_ | refine wNext ?_)))
      refine ⟨lenOk (by simp), ?_⟩
      have dl := (kn a ha').len hn2 (by omega)
      refine ⟨c' a, knD (st.1.getD a []), keyN a (st.2.getD a 0 + 1), rfl, by rw [put_ne (cq a ha'), put_ne (kc a ha')]; exact (hc' a ha').2, keyOf_pair a (st.2.getD a 0 + 1), keyN_depth _ _, by rw [knD_len]; exact Nat.lt_of_le_of_lt dl (by decide), ?_⟩
      rw [dput_knD]
      (repeat (with_reducible (first | refine wSeq ?_ | refine wAsg ?_ | refine wRet ?_ | refine wDrop ?_ | refine wName ?_ | (apply wVar; (case h => with_unfolding_all rfl)) | refine wC ?_ | refine wOp ?_ | refine wUn ?_ | refine wNil ?_ | refine wCons ?_ | refine wCB ?_ | refine wCall ?_ | refine wTest ?_ | refine wBool ?_ | refine wInt ?_ | refine wIfS ?_ | refine wIf ?_ | refine wAnd ?_ | refine wOr ?_ | refine wNot ?_ | refine wAndV ?_ | refine wOrV ?_ | refine wNotV ?_ | refine wTup ?_ | refine wLst ?_ | refine wLstF ?_ | refine wSl ?_ | refine wNoPart ?_ | refine wPart ?_ | refine wBM ?_ | refine wSub ?_ | refine wFor ?_ | refine wIterL ?_ | refine wRng1 ?_ | refine wZip ?_ | refine wLc ?_ | refine wLcF ?_ | refine wYes ?_ | refine wAddI ?_ | refine wIntT ?_ | refine wInt1 ?_ | refine wInt2 ?_ | refine wNext ?_)))
      refine wIx 0 (d := .d (.str "make")) seqOf_tup rfl rfl ?_
      (repeat (with_reducible (first | refine wSeq ?_ | refine wAsg ?_ | refine wRet ?_ | refine wDrop ?_ | refine wName ?_ | (apply wVar; (case h => with_unfolding_all rfl)) | refine wC ?_ | refine wOp ?_ | refine wUn ?_ | refine wNil ?_ | refine wCons ?_ | refine wCB ?_ | refine wCall ?_ | refine wTest ?_ | refine wBool ?_ | refine wInt ?_ | refine wIfS ?_ | refine wIf ?_ | refine wAnd ?_ | refine wOr ?_ | refine wNot ?_ | refine wAndV ?_ | refine wOrV ?_ | refine wNotV ?_ | refine wTup ?_ | refine wLst ?_ | refine wLstF ?_ | refine wSl ?_ | refine wNoPart ?_ | refine wPart ?_ | refine wBM ?_ | refine wSub ?_ | refine wFor ?_ | refine wIterL ?_ | refine wRng1 ?_ | refine wZip ?_ | refine wLc ?_ | refine wLcF ?_ | refine wYes ?_ | refine wAddI ?_ | refine wIntT ?_ | refine wInt1 ?_ | refine wInt2 ?_ | refine wNext ?_)))
      refine wEqS ?_
      (repeat (with_reducible (first | refine wSeq ?_ | refine wAsg ?_ | refine wRet ?_ | refine wDrop ?_ | refine wName ?_ | (apply wVar; (case h => with_unfolding_all rfl)) | refine wC ?_ | refine wOp ?_ | refine wUn ?_ | refine wNil ?_ | refine wCons ?_ | refine wCB ?_ | refine wCall ?_ | refine wTest ?_ | refine wBool ?_ | refine wInt ?_ | refine wIfS ?_ | refine wIf ?_ | refine wAnd ?_ | refine wOr ?_ | refine wNot ?_ | refine wAndV ?_ | refine wOrV ?_ | refine wNotV ?_ | refine wTup ?_ | refine wLst ?_ | refine wLstF ?_ | refine wSl ?_ | refine wNoPart ?_ | refine wPart ?_ | refine wBM ?_ | refine wSub ?_ | refine wFor ?_ | refine wIterL ?_ | refine wRng1 ?_ | refine wZip ?_ | refine wLc ?_ | refine wLcF ?_ | refine wYes ?_ | refine wAddI ?_ | refine wIntT ?_ | refine wInt1 ?_ | refine wInt2 ?_ | refine wNext ?_)))
      rw [if_neg (by simp only [decide_eq_true_eq]; exact sim_make.2.1)]
      with_reducible refine wNext ?_
      refine fin _ _ _ ?_ ?_ ?_ ?_ ?_
      · exact (extk.put hMq _).put (fresh a ha') _
      · rw [put_ne (cp a ha').symm, put_ne npq, put_ne kp.symm]; exact ext2 _ _ hp'
      · rw [put_ne (kc a ha').symm, put_ne kq, put_same]
      · intro j hj
        show _ = some (DO.dN (knD ((st.1.set a (ins (st.1.getD a []) (a, st.2.getD a 0 + 1))).getD j [])))
        by_cases e : j = a
        · subst e
          rw [put_same, getD_set_eq (by rw [inv.l1]; exact hj)]
        · rw [put_ne fun z => e (inj' _ _ hj ha' z), put_ne (cq j hj), put_ne (kc j hj), (hc' j hj).2, getD_set_ne e]
      · rw [put_ne (cq a ha').symm, put_same]
        rfl
    | tell a b =>
      obtain ⟨ha', hb', nab⟩ := aok
      (repeat (with_reducible (first | refine wSeq ?_ | refine wAsg ?_ | refine wRet ?_ | refine wDrop ?_ | refine wName ?_ | (apply wVar; (case h => with_unfolding_all rfl)) | refine wC ?_ | refine wOp ?_ | refine wUn ?_ | refine wNil ?_ | refine wCons ?_ | refine wCB ?_ | refine wCall ?_ | refine wTest ?_ | refine wBool ?_ | refine wInt ?_ | refine wIfS ?_ | refine wIf ?_ | refine wAnd ?_ | refine wOr ?_ | refine wNot ?_ | refine wAndV ?_ | refine wOrV ?_ | refine wNotV ?_ | refine wTup ?_ | refine wLst ?_ | refine wLstF ?_ | refine wSl ?_ | refine wNoPart ?_ | refine wPart ?_ | refine wBM ?_ | refine wSub ?_ | refine wFor ?_ | refine wIterL ?_ | refine wRng1 ?_ | refine wZip ?_ | refine wLc ?_ | refine wLcF ?_ | refine wYes ?_ | refine wAddI ?_ | refine wIntT ?_ | refine wInt1 ?_ | refine wInt2 ?_ | refine wNext ?_)))
      refine wIx 0 (d := .d (.str "tell")) seqOf_tup rfl rfl ?_
      (repeat (with_reducible (first | refine wSeq ?_ | refine wAsg ?_ | refine wRet ?_ | refine wDrop ?_ | refine wName ?_ | (apply wVar; (case h => with_unfolding_all rfl)) | refine wC ?_ | refine wOp ?_ | refine wUn ?_ | refine wNil ?_ | refine wCons ?_ | refine wCB ?_ | refine wCall ?_ | refine wTest ?_ | refine wBool ?_ | refine wInt ?_ | refine wIfS ?_ | refine wIf ?_ | refine wAnd ?_ | refine wOr ?_ | refine wNot ?_ | refine wAndV ?_ | refine wOrV ?_ | refine wNotV ?_ | refine wTup ?_ | refine wLst ?_ | refine wLstF ?_ | refine wSl ?_ | refine wNoPart ?_ | refine wPart ?_ | refine wBM ?_ | refine wSub ?_ | refine wFor ?_ | refine wIterL ?_ | refine wRng1 ?_ | refine wZip ?_ | refine wLc ?_ | refine wLcF ?_ | refine wYes ?_ | refine wAddI ?_ | refine wIntT ?_ | refine wInt1 ?_ | refine wInt2 ?_ | refine wNext ?_)))
      refine wEqS ?_
      (repeat (with_reducible (first | refine wSeq ?_ | refine wAsg ?_ | refine wRet ?_ | refine wDrop ?_ | refine wName ?_ | (apply wVar; (case h => with_unfolding_all rfl)) | refine wC ?_ | refine wOp ?_ | refine wUn ?_ | refine wNil ?_ | refine wCons ?_ | refine wCB ?_ | refine wCall ?_ | refine wTest ?_ | refine wBool ?_ | refine wInt ?_ | refine wIfS ?_ | refine wIf ?_ | refine wAnd ?_ | refine wOr ?_ | refine wNot ?_ | refine wAndV ?_ | refine wOrV ?_ | refine wNotV ?_ | refine wTup ?_ | refine wLst ?_ | refine wLstF ?_ | refine wSl ?_ | refine wNoPart ?_ | refine wPart ?_ | refine wBM ?_ | refine wSub ?_ | refine wFor ?_ | refine wIterL ?_ | refine wRng1 ?_ | refine wZip ?_ | refine wLc ?_ | refine wLcF ?_ | refine wYes ?_ | refine wAddI ?_ | refine wIntT ?_ | refine wInt1 ?_ | refine wInt2 ?_ | refine wNext ?_)))
      rw [if_neg (by simp only [decide_eq_true_eq]; exact sim_make.2.2.1)]
      (repeat (with_reducible (first | refine wSeq ?_ | refine wAsg ?_ | refine wRet ?_ | refine wDrop ?_ | refine wName ?_ | (apply wVar; (case h => with_unfolding_all rfl)) | refine wC ?_ | refine wOp ?_ | refine wUn ?_ | refine wNil ?_ | refine wCons ?_ | refine wCB ?_ | refine wCall ?_ | refine wTest ?_ | refine wBool ?_ | refine wInt ?_ | refine wIfS ?_ | refine wIf ?_ | refine wAnd ?_ | refine wOr ?_ | refine wNot ?_ | refine wAndV ?_ | refine wOrV ?_ | refine wNotV ?_ | refine wTup ?_ | refine wLst ?_ | refine wLstF ?_ | refine wSl ?_ | refine wNoPart ?_ | refine wPart ?_ | refine wBM ?_ | refine wSub ?_ | refine wFor ?_ | refine wIterL ?_ | refine wRng1 ?_ | refine wZip ?_ | refine wLc ?_ | refine wLcF ?_ | refine wYes ?_ | refine wAddI ?_ | refine wIntT ?_ | refine wInt1 ?_ | refine wInt2 ?_ | refine wNext ?_)))
      refine wIx 2 (d := .d (.int b)) seqOf_tup rfl rfl ?_
      (repeat (with_reducible (first | refine wSeq ?_ | refine wAsg ?_ | refine wRet ?_ | refine wDrop ?_ | refine wName ?_ | (apply wVar; (case h => with_unfolding_all rfl)) | refine wC ?_ | refine wOp ?_ | refine wUn ?_ | refine wNil ?_ | refine wCons ?_ | refine wCB ?_ | refine wCall ?_ | refine wTest ?_ | refine wBool ?_ | refine wInt ?_ | refine wIfS ?_ | refine wIf ?_ | refine wAnd ?_ | refine wOr ?_ | refine wNot ?_ | refine wAndV ?_ | refine wOrV ?_ | refine wNotV ?_ | refine wTup ?_ | refine wLst ?_ | refine wLstF ?_ | refine wSl ?_ | refine wNoPart ?_ | refine wPart ?_ | refine wBM ?_ | refine wSub ?_ | refine wFor ?_ | refine wIterL ?_ | refine wRng1 ?_ | refine wZip ?_ | refine wLc ?_ | refine wLcF ?_ | refine wYes ?_ | refine wAddI ?_ | refine wIntT ?_ | refine wInt1 ?_ | refine wInt2 ?_ | refine wNext ?_)))
      refine wIx b (seqOf_ref put_same) (cells_get hb') rfl ?_
      refine ⟨isDN_ref (by rw [put_ne (kc b hb')]; exact (hc' b hb').2), ?_⟩
      (repeat (with_reducible (first | refine wSeq ?_ | refine wAsg ?_ | refine wRet ?_ | refine wDrop ?_ | refine wName ?_ | (apply wVar; (case h => with_unfolding_all rfl)) | refine wC ?_ | refine wOp ?_ | refine wUn ?_ | refine wNil ?_ | refine wCons ?_ | refine wCB ?_ | refine wCall ?_ | refine wTest ?_ | refine wBool ?_ | refine wInt ?_ | refine wIfS ?_ | refine wIf ?_ | refine wAnd ?_ | refine wOr ?_ | refine wNot ?_ | refine wAndV ?_ | refine wOrV ?_ | refine wNotV ?_ | refine wTup ?_ | refine wLst ?_ | refine wLstF ?_ | refine wSl ?_ | refine wNoPart ?_ | refine wPart ?_ | refine wBM ?_ | refine wSub ?_ | refine wFor ?_ | refine wIterL ?_ | refine wRng1 ?_ | refine wZip ?_ | refine wLc ?_ | refine wLcF ?_ | refine wYes ?_ | refine wAddI ?_ | refine wIntT ?_ | refine wInt1 ?_ | refine wInt2 ?_ | refine wNext ?_)))
      refine wNeg ?_
      refine wIxLast (seqOf_ref (by rw [put_ne kp.symm]; exact ext2 _ _ hp')) ?_
      (repeat (with_reducible (first | refine wSeq ?_ | refine wAsg ?_ | refine wRet ?_ | refine wDrop ?_ | refine wName ?_ | (apply wVar; (case h => with_unfolding_all rfl)) | refine wC ?_ | refine wOp ?_ | refine wUn ?_ | refine wNil ?_ | refine wCons ?_ | refine wCB ?_ | refine wCall ?_ | refine wTest ?_ | refine wBool ?_ | refine wInt ?_ | refine wIfS ?_ | refine wIf ?_ | refine wAnd ?_ | refine wOr ?_ | refine wNot ?_ | refine wAndV ?_ | refine wOrV ?_ | refine wNotV ?_ | refine wTup ?_ | refine wLst ?_ | refine wLstF ?_ | refine wSl ?_ | refine wNoPart ?_ | refine wPart ?_ | refine wBM ?_ | refine wSub ?_ | refine wFor ?_ | refine wIterL ?_ | refine wRng1 ?_ | refine wZip ?_ | refine wLc ?_ | refine wLcF ?_ | refine wYes ?_ | refine wAddI ?_ | refine wIntT ?_ | refine wInt1 ?_ | refine wInt2 ?_ | refine wNext ?_)))
      refine wIx 1 (d := .d (.int a)) seqOf_tup rfl rfl ?_
      refine wIx a (seqOf_ref (by rw [put_ne rk]; exact ext2 _ _ hr)) (cells_get ha') rfl ?_
      (repeat (with_reducible (first | refine wSeq ?_ | refine wAsg ?_ | refine wRet ?_ | refine wDrop ?_ | refine wName ?_ | (apply wVar; (case h => with_unfolding_all rfl)) | refine wC ?_ | refine wOp ?_ | refine wUn ?_ | refine wNil ?_ | refine wCons ?_ | refine wCB ?_ | refine wCall ?_ | refine wTest ?_ | refine wBool ?_ | refine wInt ?_ | refine wIfS ?_ | refine wIf ?_ | refine wAnd ?_ | refine wOr ?_ | refine wNot ?_ | refine wAndV ?_ | refine wOrV ?_ | refine wNotV ?_ | refine wTup ?_ | refine wLst ?_ | refine wLstF ?_ | refine wSl ?_ | refine wNoPart ?_ | refine wPart ?_ | refine wBM ?_ | refine wSub ?_ | refine wFor ?_ | refine wIterL ?_ | refine wRng1 ?_ | refine wZip ?_ | refine wLc ?_ | refine wLcF ?_ | refine wYes ?_ | refine wAddI ?_ | refine wIntT ?_ | refine wInt1 ?_ | refine wInt2 ?_ | refine wNext ?_)))
      refine upd_knD w rfl (by rw [put_ne (kc b hb')]; exact (hc' b hb').2) (by rw [put_ne (ck a ha')]; exact ext2 _ _ (hcell a ha')) (cc a b ha' hb').symm (kn b hb') (kn a ha') hn2 (by omega) ?_
      (repeat (with_reducible (first | refine wSeq ?_ | refine wAsg ?_ | refine wRet ?_ | refine wDrop ?_ | refine wName ?_ | (apply wVar; (case h => with_unfolding_all rfl)) | refine wC ?_ | refine wOp ?_ | refine wUn ?_ | refine wNil ?_ | refine wCons ?_ | refine wCB ?_ | refine wCall ?_ | refine wTest ?_ | refine wBool ?_ | refine wInt ?_ | refine wIfS ?_ | refine wIf ?_ | refine wAnd ?_ | refine wOr ?_ | refine wNot ?_ | refine wAndV ?_ | refine wOrV ?_ | refine wNotV ?_ | refine wTup ?_ | refine wLst ?_ | refine wLstF ?_ | refine wSl ?_ | refine wNoPart ?_ | refine wPart ?_ | refine wBM ?_ | refine wSub ?_ | refine wFor ?_ | refine wIterL ?_ | refine wRng1 ?_ | refine wZip ?_ | refine wLc ?_ | refine wLcF ?_ | refine wYes ?_ | refine wAddI ?_ | refine wIntT ?_ | refine wInt1 ?_ | refine wInt2 ?_ | refine wNext ?_)))
      refine wIx 0 (d := .d (.str "tell")) seqOf_tup rfl rfl ?_
      (repeat (with_reducible (first | refine wSeq ?_ | refine wAsg ?_ | refine wRet ?_ | refine wDrop ?_ | refine wName ?_ | (apply wVar; (case h => with_unfolding_all rfl)) | refine wC ?_ | refine wOp ?_ | refine wUn ?_ | refine wNil ?_ | refine wCons ?_ | refine wCB ?_ | refine wCall ?_ | refine wTest ?_ | refine wBool ?_ | refine wInt ?_ | refine wIfS ?_ | refine wIf ?_ | refine wAnd ?_ | refine wOr ?_ | refine wNot ?_ | refine wAndV ?_ | refine wOrV ?_ | refine wNotV ?_ | refine wTup ?_ | refine wLst ?_ | refine wLstF ?_ | refine wSl ?_ | refine wNoPart ?_ | refine wPart ?_ | refine wBM ?_ | refine wSub ?_ | refine wFor ?_ | refine wIterL ?_ | refine wRng1 ?_ | refine wZip ?_ | refine wLc ?_ | refine wLcF ?_ | refine wYes ?_ | refine wAddI ?_ | refine wIntT ?_ | refine wInt1 ?_ | refine wInt2 ?_ | refine wNext ?_)))
      refine wEqS ?_
      (repeat (with_reducible (first | refine wSeq ?_ | refine wAsg ?_ | refine wRet ?_ | refine wDrop ?_ | refine wName ?_ | (apply wVar; (case h => with_unfolding_all rfl)) | refine wC ?_ | refine wOp ?_ | refine wUn ?_ | refine wNil ?_ | refine wCons ?_ | refine wCB ?_ | refine wCall ?_ | refine wTest ?_ | refine wBool ?_ | refine wInt ?_ | refine wIfS ?_ | refine wIf ?_ | refine wAnd ?_ | refine wOr ?_ | refine wNot ?_ | refine wAndV ?_ | refine wOrV ?_ | refine wNotV ?_ | refine wTup ?_ | refine wLst ?_ | refine wLstF ?_ | refine wSl ?_ | refine wNoPart ?_ | refine wPart ?_ | refine wBM ?_ | refine wSub ?_ | refine wFor ?_ | refine wIterL ?_ | refine wRng1 ?_ | refine wZip ?_ | refine wLc ?_ | refine wLcF ?_ | refine wYes ?_ | refine wAddI ?_ | refine wIntT ?_ | refine wInt1 ?_ | refine wInt2 ?_ | refine wNext ?_)))
      rw [if_neg (by simp only [decide_eq_true_eq]; exact sim_make.2.2.2.1)]
      with_reducible refine wNext ?_
      refine fin _ _ _ ?_ ?_ ?_ ?_ ?_
      · exact extk.put (fresh b hb') _
      · rw [put_ne (cp b hb').symm, put_ne kp.symm]; exact ext2 _ _ hp'
      · rw [put_ne (kc b hb').symm, put_same]
      · intro j hj
        show _ = some (DO.dN (knD ((st.1.set b (mrg (st.1.getD b []) (st.1.getD a []))).getD j [])))
        by_cases e : j = b
        · subst e
          rw [put_same, getD_set_eq (by rw [inv.l1]; exact hj)]
        · rw [put_ne fun z => e (inj' _ _ hj hb' z), put_ne (kc j hj), (hc' j hj).2, getD_set_ne e]
      · rw [put_ne (cq b hb').symm, put_ne kq.symm]
        exact ext2 _ _ hqa'
    | meet a b =>
      obtain ⟨ha', hb', nab⟩ := aok
      have cab : c' a ≠ c' b := fun z => nab (inj' _ _ ha' hb' z)
      (repeat (with_reducible (first | refine wSeq ?_ | refine wAsg ?_ | refine wRet ?_ | refine wDrop ?_ | refine wName ?_ | (apply wVar; (case h => with_unfolding_all rfl)) | refine wC ?_ | refine wOp ?_ | refine wUn ?_ | refine wNil ?_ | refine wCons ?_ | refine wCB ?_ | refine wCall ?_ | refine wTest ?_ | refine wBool ?_ | refine wInt ?_ | refine wIfS ?_ | refine wIf ?_ | refine wAnd ?_ | refine wOr ?_ | refine wNot ?_ | refine wAndV ?_ | refine wOrV ?_ | refine wNotV ?_ | refine wTup ?_ | refine wLst ?_ | refine wLstF ?_ | refine wSl ?_ | refine wNoPart ?_ | refine wPart ?_ | refine wBM ?_ | refine wSub ?_ | refine wFor ?_ | refine wIterL ?_ | refine wRng1 ?_ | refine wZip ?_ | refine wLc ?_ | refine wLcF ?_ | refine wYes ?_ | refine wAddI ?_ | refine wIntT ?_ | refine wInt1 ?_ | refine wInt2 ?_ | refine wNext ?_)))
      refine wIx 0 (d := .d (.str "meet")) seqOf_tup rfl rfl ?_
      (repeat (with_reducible (first | refine wSeq ?_ | refine wAsg ?_ | refine wRet ?_ | refine wDrop ?_ | refine wName ?_ | (apply wVar; (case h => with_unfolding_all rfl)) | refine wC ?_ | refine wOp ?_ | refine wUn ?_ | refine wNil ?_ | refine wCons ?_ | refine wCB ?_ | refine wCall ?_ | refine wTest ?_ | refine wBool ?_ | refine wInt ?_ | refine wIfS ?_ | refine wIf ?_ | refine wAnd ?_ | refine wOr ?_ | refine wNot ?_ | refine wAndV ?_ | refine wOrV ?_ | refine wNotV ?_ | refine wTup ?_ | refine wLst ?_ | refine wLstF ?_ | refine wSl ?_ | refine wNoPart ?_ | refine wPart ?_ | refine wBM ?_ | refine wSub ?_ | refine wFor ?_ | refine wIterL ?_ | refine wRng1 ?_ | refine wZip ?_ | refine wLc ?_ | refine wLcF ?_ | refine wYes ?_ | refine wAddI ?_ | refine wIntT ?_ | refine wInt1 ?_ | refine wInt2 ?_ | refine wNext ?_)))
      refine wEqS ?_
      (repeat (with_reducible (first | refine wSeq ?_ | refine wAsg ?_ | refine wRet ?_ | refine wDrop ?_ | refine wName ?_ | (apply wVar; (case h => with_unfolding_all rfl)) | refine wC ?_ | refine wOp ?_ | refine wUn ?_ | refine wNil ?_ | refine wCons ?_ | refine wCB ?_ | refine wCall ?_ | refine wTest ?_ | refine wBool ?_ | refine wInt ?_ | refine wIfS ?_ | refine wIf ?_ | refine wAnd ?_ | refine wOr ?_ | refine wNot ?_ | refine wAndV ?_ | refine wOrV ?_ | refine wNotV ?_ | refine wTup ?_ | refine wLst ?_ | refine wLstF ?_ | refine wSl ?_ | refine wNoPart ?_ | refine wPart ?_ | refine wBM ?_ | refine wSub ?_ | refine wFor ?_ | refine wIterL ?_ | refine wRng1 ?_ | refine wZip ?_ | refine wLc ?_ | refine wLcF ?_ | refine wYes ?_ | refine wAddI ?_ | refine wIntT ?_ | refine wInt1 ?_ | refine wInt2 ?_ | refine wNext ?_)))
      rw [if_neg (by simp only [decide_eq_true_eq]; exact sim_make.2.2.2.2.1)]
      (repeat (with_reducible (first | refine wSeq ?_ | refine wAsg ?_ | refine wRet ?_ | refine wDrop ?_ | refine wName ?_ | (apply wVar; (case h => with_unfolding_all rfl)) | refine wC ?_ | refine wOp ?_ | refine wUn ?_ | refine wNil ?_ | refine wCons ?_ | refine wCB ?_ | refine wCall ?_ | refine wTest ?_ | refine wBool ?_ | refine wInt ?_ | refine wIfS ?_ | refine wIf ?_ | refine wAnd ?_ | refine wOr ?_ | refine wNot ?_ | refine wAndV ?_ | refine wOrV ?_ | refine wNotV ?_ | refine wTup ?_ | refine wLst ?_ | refine wLstF ?_ | refine wSl ?_ | refine wNoPart ?_ | refine wPart ?_ | refine wBM ?_ | refine wSub ?_ | refine wFor ?_ | refine wIterL ?_ | refine wRng1 ?_ | refine wZip ?_ | refine wLc ?_ | refine wLcF ?_ | refine wYes ?_ | refine wAddI ?_ | refine wIntT ?_ | refine wInt1 ?_ | refine wInt2 ?_ | refine wNext ?_)))
      refine wIx 2 (d := .d (.int b)) seqOf_tup rfl rfl ?_
      (repeat (with_reducible (first | refine wSeq ?_ | refine wAsg ?_ | refine wRet ?_ | refine wDrop ?_ | refine wName ?_ | (apply wVar; (case h => with_unfolding_all rfl)) | refine wC ?_ | refine wOp ?_ | refine wUn ?_ | refine wNil ?_ | refine wCons ?_ | refine wCB ?_ | refine wCall ?_ | refine wTest ?_ | refine wBool ?_ | refine wInt ?_ | refine wIfS ?_ | refine wIf ?_ | refine wAnd ?_ | refine wOr ?_ | refine wNot ?_ | refine wAndV ?_ | refine wOrV ?_ | refine wNotV ?_ | refine wTup ?_ | refine wLst ?_ | refine wLstF ?_ | refine wSl ?_ | refine wNoPart ?_ | refine wPart ?_ | refine wBM ?_ | refine wSub ?_ | refine wFor ?_ | refine wIterL ?_ | refine wRng1 ?_ | refine wZip ?_ | refine wLc ?_ | refine wLcF ?_ | refine wYes ?_ | refine wAddI ?_ | refine wIntT ?_ | refine wInt1 ?_ | refine wInt2 ?_ | refine wNext ?_)))
      refine wIx b (seqOf_ref put_same) (cells_get hb') rfl ?_
      refine ⟨isDN_ref (by rw [put_ne (kc b hb')]; exact (hc' b hb').2), ?_⟩
      (repeat (with_reducible (first | refine wSeq ?_ | refine wAsg ?_ | refine wRet ?_ | refine wDrop ?_ | refine wName ?_ | (apply wVar; (case h => with_unfolding_all rfl)) | refine wC ?_ | refine wOp ?_ | refine wUn ?_ | refine wNil ?_ | refine wCons ?_ | refine wCB ?_ | refine wCall ?_ | refine wTest ?_ | refine wBool ?_ | refine wInt ?_ | refine wIfS ?_ | refine wIf ?_ | refine wAnd ?_ | refine wOr ?_ | refine wNot ?_ | refine wAndV ?_ | refine wOrV ?_ | refine wNotV ?_ | refine wTup ?_ | refine wLst ?_ | refine wLstF ?_ | refine wSl ?_ | refine wNoPart ?_ | refine wPart ?_ | refine wBM ?_ | refine wSub ?_ | refine wFor ?_ | refine wIterL ?_ | refine wRng1 ?_ | refine wZip ?_ | refine wLc ?_ | refine wLcF ?_ | refine wYes ?_ | refine wAddI ?_ | refine wIntT ?_ | refine wInt1 ?_ | refine wInt2 ?_ | refine wNext ?_)))
      refine wNeg ?_
      refine wIxLast (seqOf_ref (by rw [put_ne kp.symm]; exact ext2 _ _ hp')) ?_
      (repeat (with_reducible (first | refine wSeq ?_ | refine wAsg ?_ | refine wRet ?_ | refine wDrop ?_ | refine wName ?_ | (apply wVar; (case h => with_unfolding_all rfl)) | refine wC ?_ | refine wOp ?_ | refine wUn ?_ | refine wNil ?_ | refine wCons ?_ | refine wCB ?_ | refine wCall ?_ | refine wTest ?_ | refine wBool ?_ | refine wInt ?_ | refine wIfS ?_ | refine wIf ?_ | refine wAnd ?_ | refine wOr ?_ | refine wNot ?_ | refine wAndV ?_ | refine wOrV ?_ | refine wNotV ?_ | refine wTup ?_ | refine wLst ?_ | refine wLstF ?_ | refine wSl ?_ | refine wNoPart ?_ | refine wPart ?_ | refine wBM ?_ | refine wSub ?_ | refine wFor ?_ | refine wIterL ?_ | refine wRng1 ?_ | refine wZip ?_ | refine wLc ?_ | refine wLcF ?_ | refine wYes ?_ | refine wAddI ?_ | refine wIntT ?_ | refine wInt1 ?_ | refine wInt2 ?_ | refine wNext ?_)))
      refine wIx 1 (d := .d (.int a)) seqOf_tup rfl rfl ?_
      refine wIx a (seqOf_ref (by rw [put_ne rk]; exact ext2 _ _ hr)) (cells_get ha') rfl ?_
      (repeat (with_reducible (first | refine wSeq ?_ | refine wAsg ?_ | refine wRet ?_ | refine wDrop ?_ | refine wName ?_ | (apply wVar; (case h => with_unfolding_all rfl)) | refine wC ?_ | refine wOp ?_ | refine wUn ?_ | refine wNil ?_ | refine wCons ?_ | refine wCB ?_ | refine wCall ?_ | refine wTest ?_ | refine wBool ?_ | refine wInt ?_ | refine wIfS ?_ | refine wIf ?_ | refine wAnd ?_ | refine wOr ?_ | refine wNot ?_ | refine wAndV ?_ | refine wOrV ?_ | refine wNotV ?_ | refine wTup ?_ | refine wLst ?_ | refine wLstF ?_ | refine wSl ?_ | refine wNoPart ?_ | refine wPart ?_ | refine wBM ?_ | refine wSub ?_ | refine wFor ?_ | refine wIterL ?_ | refine wRng1 ?_ | refine wZip ?_ | refine wLc ?_ | refine wLcF ?_ | refine wYes ?_ | refine wAddI ?_ | refine wIntT ?_ | refine wInt1 ?_ | refine wInt2 ?_ | refine wNext ?_)))
      refine upd_knD w rfl (by rw [put_ne (kc b hb')]; exact (hc' b hb').2) (by rw [put_ne (ck a ha')]; exact ext2 _ _ (hcell a ha')) (cc a b ha' hb').symm (kn b hb') (kn a ha') hn2 (by omega) ?_
      (repeat (with_reducible (first | refine wSeq ?_ | refine wAsg ?_ | refine wRet ?_ | refine wDrop ?_ | refine wName ?_ | (apply wVar; (case h => with_unfolding_all rfl)) | refine wC ?_ | refine wOp ?_ | refine wUn ?_ | refine wNil ?_ | refine wCons ?_ | refine wCB ?_ | refine wCall ?_ | refine wTest ?_ | refine wBool ?_ | refine wInt ?_ | refine wIfS ?_ | refine wIf ?_ | refine wAnd ?_ | refine wOr ?_ | refine wNot ?_ | refine wAndV ?_ | refine wOrV ?_ | refine wNotV ?_ | refine wTup ?_ | refine wLst ?_ | refine wLstF ?_ | refine wSl ?_ | refine wNoPart ?_ | refine wPart ?_ | refine wBM ?_ | refine wSub ?_ | refine wFor ?_ | refine wIterL ?_ | refine wRng1 ?_ | refine wZip ?_ | refine wLc ?_ | refine wLcF ?_ | refine wYes ?_ | refine wAddI ?_ | refine wIntT ?_ | refine wInt1 ?_ | refine wInt2 ?_ | refine wNext ?_)))
      refine wIx 0 (d := .d (.str "meet")) seqOf_tup rfl rfl ?_
      (repeat (with_reducible (first | refine wSeq ?_ | refine wAsg ?_ | refine wRet ?_ | refine wDrop ?_ | refine wName ?_ | (apply wVar; (case h => with_unfolding_all rfl)) | refine wC ?_ | refine wOp ?_ | refine wUn ?_ | refine wNil ?_ | refine wCons ?_ | refine wCB ?_ | refine wCall ?_ | refine wTest ?_ | refine wBool ?_ | refine wInt ?_ | refine wIfS ?_ | refine wIf ?_ | refine wAnd ?_ | refine wOr ?_ | refine wNot ?_ | refine wAndV ?_ | refine wOrV ?_ | refine wNotV ?_ | refine wTup ?_ | refine wLst ?_ | refine wLstF ?_ | refine wSl ?_ | refine wNoPart ?_ | refine wPart ?_ | refine wBM ?_ | refine wSub ?_ | refine wFor ?_ | refine wIterL ?_ | refine wRng1 ?_ | refine wZip ?_ | refine wLc ?_ | refine wLcF ?_ | refine wYes ?_ | refine wAddI ?_ | refine wIntT ?_ | refine wInt1 ?_ | refine wInt2 ?_ | refine wNext ?_)))
      refine wEqS ?_
      (repeat (with_reducible (first | refine wSeq ?_ | refine wAsg ?_ | refine wRet ?_ | refine wDrop ?_ | refine wName ?_ | (apply wVar; (case h => with_unfolding_all rfl)) | refine wC ?_ | refine wOp ?_ | refine wUn ?_ | refine wNil ?_ | refine wCons ?_ | refine wCB ?_ | refine wCall ?_ | refine wTest ?_ | refine wBool ?_ | refine wInt ?_ | refine wIfS ?_ | refine wIf ?_ | refine wAnd ?_ | refine wOr ?_ | refine wNot ?_ | refine wAndV ?_ | refine wOrV ?_ | refine wNotV ?_ | refine wTup ?_ | refine wLst ?_ | refine wLstF ?_ | refine wSl ?_ | refine wNoPart ?_ | refine wPart ?_ | refine wBM ?_ | refine wSub ?_ | refine wFor ?_ | refine wIterL ?_ | refine wRng1 ?_ | refine wZip ?_ | refine wLc ?_ | refine wLcF ?_ | refine wYes ?_ | refine wAddI ?_ | refine wIntT ?_ | refine wInt1 ?_ | refine wInt2 ?_ | refine wNext ?_)))
      rw [if_pos (by simp)]
      (repeat (with_reducible (first | refine wSeq ?_ | refine wAsg ?_ | refine wRet ?_ | refine wDrop ?_ | refine wName ?_ | (apply wVar; (case h => with_unfolding_all rfl)) | refine wC ?_ | refine wOp ?_ | refine wUn ?_ | refine wNil ?_ | refine wCons ?_ | refine wCB ?_ | refine wCall ?_ | refine wTest ?_ | refine wBool ?_ | refine wInt ?_ | refine wIfS ?_ | refine wIf ?_ | refine wAnd ?_ | refine wOr ?_ | refine wNot ?_ | refine wAndV ?_ | refine wOrV ?_ | refine wNotV ?_ | refine wTup ?_ | refine wLst ?_ | refine wLstF ?_ | refine wSl ?_ | refine wNoPart ?_ | refine wPart ?_ | refine wBM ?_ | refine wSub ?_ | refine wFor ?_ | refine wIterL ?_ | refine wRng1 ?_ | refine wZip ?_ | refine wLc ?_ | refine wLcF ?_ | refine wYes ?_ | refine wAddI ?_ | refine wIntT ?_ | refine wInt1 ?_ | refine wInt2 ?_ | refine wNext ?_)))
      refine wIx 1 (d := .d (.int a)) seqOf_tup rfl rfl ?_
      (repeat (with_reducible (first | refine wSeq ?_ | refine wAsg ?_ | refine wRet ?_ | refine wDrop ?_ | refine wName ?_ | (apply wVar; (case h => with_unfolding_all rfl)) | refine wC ?_ | refine wOp ?_ | refine wUn ?_ | refine wNil ?_ | refine wCons ?_ | refine wCB ?_ | refine wCall ?_ | refine wTest ?_ | refine wBool ?_ | refine wInt ?_ | refine wIfS ?_ | refine wIf ?_ | refine wAnd ?_ | refine wOr ?_ | refine wNot ?_ | refine wAndV ?_ | refine wOrV ?_ | refine wNotV ?_ | refine wTup ?_ | refine wLst ?_ | refine wLstF ?_ | refine wSl ?_ | refine wNoPart ?_ | refine wPart ?_ | refine wBM ?_ | refine wSub ?_ | refine wFor ?_ | refine wIterL ?_ | refine wRng1 ?_ | refine wZip ?_ | refine wLc ?_ | refine wLcF ?_ | refine wYes ?_ | refine wAddI ?_ | refine wIntT ?_ | refine wInt1 ?_ | refine wInt2 ?_ | refine wNext ?_)))
      refine wIx a (seqOf_ref (by rw [put_ne (kc b hb').symm, put_same])) (cells_get ha') rfl ?_
      refine ⟨isDN_ref (by rw [put_ne cab, put_ne (kc a ha')]; exact (hc' a ha').2), ?_⟩
      (repeat (with_reducible (first | refine wSeq ?_ | refine wAsg ?_ | refine wRet ?_ | refine wDrop ?_ | refine wName ?_ | (apply wVar; (case h => with_unfolding_all rfl)) | refine wC ?_ | refine wOp ?_ | refine wUn ?_ | refine wNil ?_ | refine wCons ?_ | refine wCB ?_ | refine wCall ?_ | refine wTest ?_ | refine wBool ?_ | refine wInt ?_ | refine wIfS ?_ | refine wIf ?_ | refine wAnd ?_ | refine wOr ?_ | refine wNot ?_ | refine wAndV ?_ | refine wOrV ?_ | refine wNotV ?_ | refine wTup ?_ | refine wLst ?_ | refine wLstF ?_ | refine wSl ?_ | refine wNoPart ?_ | refine wPart ?_ | refine wBM ?_ | refine wSub ?_ | refine wFor ?_ | refine wIterL ?_ | refine wRng1 ?_ | refine wZip ?_ | refine wLc ?_ | refine wLcF ?_ | refine wYes ?_ | refine wAddI ?_ | refine wIntT ?_ | refine wInt1 ?_ | refine wInt2 ?_ | refine wNext ?_)))
      refine wNeg ?_
      refine wIxLast (seqOf_ref (by rw [put_ne (cp b hb').symm, put_ne kp.symm]; exact ext2 _ _ hp')) ?_
      (repeat (with_reducible (first | refine wSeq ?_ | refine wAsg ?_ | refine wRet ?_ | refine wDrop ?_ | refine wName ?_ | (apply wVar; (case h => with_unfolding_all rfl)) | refine wC ?_ | refine wOp ?_ | refine wUn ?_ | refine wNil ?_ | refine wCons ?_ | refine wCB ?_ | refine wCall ?_ | refine wTest ?_ | refine wBool ?_ | refine wInt ?_ | refine wIfS ?_ | refine wIf ?_ | refine wAnd ?_ | refine wOr ?_ | refine wNot ?_ | refine wAndV ?_ | refine wOrV ?_ | refine wNotV ?_ | refine wTup ?_ | refine wLst ?_ | refine wLstF ?_ | refine wSl ?_ | refine wNoPart ?_ | refine wPart ?_ | refine wBM ?_ | refine wSub ?_ | refine wFor ?_ | refine wIterL ?_ | refine wRng1 ?_ | refine wZip ?_ | refine wLc ?_ | refine wLcF ?_ | refine wYes ?_ | refine wAddI ?_ | refine wIntT ?_ | refine wInt1 ?_ | refine wInt2 ?_ | refine wNext ?_)))
      refine wIx 2 (d := .d (.int b)) seqOf_tup rfl rfl ?_
      refine wIx b (seqOf_ref (by rw [put_ne (rc b hb'), put_ne rk]; exact ext2 _ _ hr)) (cells_get hb') rfl ?_
      (repeat (with_reducible (first | refine wSeq ?_ | refine wAsg ?_ | refine wRet ?_ | refine wDrop ?_ | refine wName ?_ | (apply wVar; (case h => with_unfolding_all rfl)) | refine wC ?_ | refine wOp ?_ | refine wUn ?_ | refine wNil ?_ | refine wCons ?_ | refine wCB ?_ | refine wCall ?_ | refine wTest ?_ | refine wBool ?_ | refine wInt ?_ | refine wIfS ?_ | refine wIf ?_ | refine wAnd ?_ | refine wOr ?_ | refine wNot ?_ | refine wAndV ?_ | refine wOrV ?_ | refine wNotV ?_ | refine wTup ?_ | refine wLst ?_ | refine wLstF ?_ | refine wSl ?_ | refine wNoPart ?_ | refine wPart ?_ | refine wBM ?_ | refine wSub ?_ | refine wFor ?_ | refine wIterL ?_ | refine wRng1 ?_ | refine wZip ?_ | refine wLc ?_ | refine wLcF ?_ | refine wYes ?_ | refine wAddI ?_ | refine wIntT ?_ | refine wInt1 ?_ | refine wInt2 ?_ | refine wNext ?_)))
      refine upd_knD w rfl (by rw [put_ne cab, put_ne (kc a ha')]; exact (hc' a ha').2) (by rw [put_ne (cc b b hb' hb'), put_ne (ck b hb')]; exact ext2 _ _ (hcell b hb')) (cc b a hb' ha').symm (kn a ha') (kn b hb') hn2 (by omega) ?_
      (repeat (with_reducible (first | refine wSeq ?_ | refine wAsg ?_ | refine wRet ?_ | refine wName ?_ | (apply wVar; (case h => with_unfolding_all rfl)) | refine wC ?_ | refine wOp ?_ | refine wUn ?_ | refine wNil ?_ | refine wCons ?_ | refine wCB ?_ | refine wCall ?_ | refine wTest ?_ | refine wBool ?_ | refine wInt ?_ | refine wIfS ?_ | refine wIf ?_ | refine wAnd ?_ | refine wOr ?_ | refine wNot ?_ | refine wAndV ?_ | refine wOrV ?_ | refine wNotV ?_ | refine wTup ?_ | refine wLst ?_ | refine wLstF ?_ | refine wSl ?_ | refine wNoPart ?_ | refine wPart ?_ | refine wBM ?_ | refine wSub ?_ | refine wFor ?_ | refine wIterL ?_ | refine wRng1 ?_ | refine wZip ?_ | refine wLc ?_ | refine wLcF ?_ | refine wYes ?_ | refine wAddI ?_ | refine wIntT ?_ | refine wInt1 ?_ | refine wInt2 ?_ | refine wNext ?_)))
      refine fin _ _ _ ?_ ?_ ?_ ?_ ?_
      · exact (extk.put (fresh b hb') _).put (fresh a ha') _
      · rw [put_ne (cp a ha').symm, put_ne (cp b hb').symm, put_ne kp.symm]; exact ext2 _ _ hp'
      · rw [put_ne (kc a ha').symm, put_ne (kc b hb').symm, put_same]
      · intro j hj
        show _ = some (DO.dN (knD (((st.1.set b (mrg (st.1.getD b []) (st.1.getD a []))).set a (mrg (st.1.getD a []) (st.1.getD b []))).getD j [])))
        by_cases e : j = a
        · subst e
          rw [put_same, getD_set_eq (by simp [inv.l1]; exact hj)]
        · rw [put_ne fun z => e (inj' _ _ hj ha' z), getD_set_ne e]
          by_cases e2 : j = b
          · subst e2
            rw [put_same, getD_set_eq (by rw [inv.l1]; exact hj)]
          · rw [put_ne fun z => e2 (inj' _ _ hj hb' z), put_ne (kc j hj), (hc' j hj).2, getD_set_ne e2]
      · rw [put_ne (cq a ha').symm, put_ne (cq b hb').symm, put_ne kq.symm]
        exact ext2 _ _ hqa'
  · rintro ρ M' ⟨more, r, c, x4, x5, x6, x7, ext, hp', hml, hr, hcell, hqa', rfl⟩
    refine ⟨rfl, ?_⟩
    (repeat (with_reducible (first | refine wSeq ?_ | refine wAsg ?_ | refine wRet ?_ | refine wDrop ?_ | refine wName ?_ | (apply wVar; (case h => with_unfolding_all rfl)) | refine wC ?_ | refine wOp ?_ | refine wUn ?_ | refine wNil ?_ | refine wCons ?_ | refine wCB ?_ | refine wCall ?_ | refine wTest ?_ | refine wBool ?_ | refine wInt ?_ | refine wIfS ?_ | refine wIf ?_ | refine wAnd ?_ | refine wOr ?_ | refine wNot ?_ | refine wAndV ?_ | refine wOrV ?_ | refine wNotV ?_ | refine wTup ?_ | refine wLst ?_ | refine wLstF ?_ | refine wSl ?_ | refine wNoPart ?_ | refine wPart ?_ | refine wBM ?_ | refine wSub ?_ | refine wFor ?_ | refine wIterL ?_ | refine wRng1 ?_ | refine wZip ?_ | refine wLc ?_ | refine wLcF ?_ | refine wYes ?_ | refine wAddI ?_ | refine wIntT ?_ | refine wInt1 ?_ | refine wInt2 ?_ | refine wNext ?_)))
    have e : ((List.map Act.data acts).map DV.d).length = acts.length := by simp
    rw [e, List.take_length] at hcell
    have l : ((List.range n).map fun j => DV.ref (c j)) = ((List.range n).map c).map DV.ref := by rw [List.map_map]; rfl
    rw [l] at hr
    refine q p r more ((List.range n).map c) M' ext hp' hr (by simp) fun j x hx => ?_
    rw [List.getElem?_map] at hx
    by_cases hj : j < n
    · rw [List.getElem?_range hj] at hx
      obtain rfl := Option.some.inj hx
      exact hcell j hj
    · rw [List.getElem?_eq_none (by simp; omega)] at hx
      simp at hx
end DL

set_option Elab.async false
set_option linter.all false
set_option maxRecDepth 100000
set_option maxHeartbeats 4000000
namespace DL
open PySem L2 PyProof.Rows
theorem lcW_ext2 {g : TDG} {te : TDE} {ρ : DSt} {S : DM → Prop} {M : DM} {P : Nat → DV → DM → DM → Prop} {xs : List DV} {Q : List DV → DM → Prop} (hz : xs.length ≤ sizeLine) (hS : ∀ M', Ext M M' → S M')
    (step : ∀ (i : Nat) (x : DV) (M' : DM), xs[i]? = some x → Ext M M' → ∀ K : DK, (∀ v M'', Ext M' M'' → P i v M' M'' → K v M'') → g x ρ M' fun ρ2 M2 => te ρ2 M2 K)
    (q : ∀ (f : Nat → DV) (Mb Ma : Nat → DM) (M' : DM), Ext M M' → (∀ j, j < xs.length → Ext M (Mb j) ∧ Ext (Ma j) M' ∧ P j (f j) (Mb j) (Ma j)) → (∀ j' j, j' < j → j < xs.length → Ext (Ma j') (Mb j)) → Q ((List.range xs.length).map f) M') : lcW g dYes te ρ S Q xs [] M := by
  refine lcW_inv (fun i acc M' => ∃ (f : Nat → DV) (Mb Ma : Nat → DM), acc = (List.range i).map f ∧ Ext M M' ∧ (∀ j, j < i → Ext M (Mb j) ∧ Ext (Ma j) M' ∧ P j (f j) (Mb j) (Ma j)) ∧ ∀ j' j, j' < j → j < i → Ext (Ma j') (Mb j)) ?_ ?_ ?_
  · exact ⟨fun _ => .d .none, fun _ => M, fun _ => M, rfl, Ext.refl M, fun j h => absurd h (Nat.not_lt_zero _), fun _ j _ h => absurd h (Nat.not_lt_zero _)⟩
  · rintro i x acc M' hx ⟨f, Mb, Ma, rfl, ext, hf, hd⟩
    refine ⟨hS _ ext, fun K hK => ?_⟩
    obtain ⟨hi, _⟩ := List.getElem?_eq_some_iff.mp hx
    refine step i x M' hx ext (fun y M4 => ((List.range i).map f).length < sizeLine ∧ K ((List.range i).map f ++ [y]) M4) fun v M'' ext2 hp => ⟨by simp; omega, hK _ _ ⟨fun j => if j = i then v else f j, fun j => if j = i then M' else Mb j, fun j => if j = i then M'' else Ma j, ?_, ext.trans ext2, ?_, ?_⟩⟩
    · rw [List.range_succ, List.map_append]
      congr 1
      · refine List.map_congr_left fun j hj => ?_
        rw [if_neg (by have := List.mem_range.mp hj; omega)]
      · simp
    · intro j hj
      by_cases c : j = i
      · subst c
        show Ext M (if j = j then M' else Mb j) ∧ Ext (if j = j then M'' else Ma j) M'' ∧ P j (if j = j then v else f j) (if j = j then M' else Mb j) (if j = j then M'' else Ma j)
        simp only [if_true]
        exact ⟨ext, Ext.refl _, hp⟩
      · obtain ⟨e1, e2, h⟩ := hf j (by omega)
        show Ext M (if j = i then M' else Mb j) ∧ Ext (if j = i then M'' else Ma j) M'' ∧ P j (if j = i then v else f j) (if j = i then M' else Mb j) (if j = i then M'' else Ma j)
        simp only [if_neg c]
        exact ⟨e1, e2.trans ext2, h⟩
    · intro j' j h1 h2
      show Ext (if j' = i then M'' else Ma j') (if j = i then M' else Mb j)
      rw [if_neg (by omega : ¬ j' = i)]
      by_cases c : j = i
      · rw [if_pos c]
        exact (hf j' (by omega)).2.1
      · rw [if_neg c]
        exact hd j' j h1 (by omega)
  · rintro acc M' ⟨f, Mb, Ma, rfl, ext, hf, hd⟩
    exact ⟨hS _ ext, q f Mb Ma M' ext hf hd⟩
def cellsL (n : Nat) (c : Nat → Addr) : List DV := (List.range n).map fun j => .ref (c j)
def InjC (n : Nat) (cell : Nat → Nat → Addr) : Prop := ∀ i j i' j', i < n → j < n → i' < n → j' < n → cell i j = cell i' j' → i = i' ∧ j = j'
/-- a table of new dicts -/
theorem lcW_tab {g : TDG} {te : TDE} {ρ : DSt} {S : DM → Prop} {M : DM} {xs : List DV} {Q : List DV → DM → Prop} {n : Nat} (T : Tab) (hn : xs.length = n) (hz : n ≤ 1000) (hS : ∀ M', Ext M M' → S M')
    (step : ∀ (i : Nat) (x : DV) (M' : DM), i < n → xs[i]? = some x → Ext M M' → ∀ K : DK, (∀ r c M'', Ext M' M'' → M' r = none → M'' r = some (.lst (cellsL n c)) → (∀ j, j < n → M' (c j) = none ∧ M'' (c j) = some (.dN (knD (T i j)))) → (∀ j j', j < n → j' < n → c j = c j' → j = j') → K (.ref r) M'') → g x ρ M' fun ρ2 M2 => te ρ2 M2 K)
    (q : ∀ (row : Nat → Addr) (cell : Nat → Nat → Addr) (M' : DM), Ext M M' → (∀ i, i < n → M (row i) = none ∧ M' (row i) = some (.lst (cellsL n (cell i)))) → (∀ i j, i < n → j < n → M (cell i j) = none ∧ M' (cell i j) = some (.dN (knD (T i j)))) → InjC n cell → Q (cellsL n row) M') : lcW g dYes te ρ S Q xs [] M := by
  refine lcW_ext2 (P := fun i v Mb Ma => ∃ (r : Addr) (c : Nat → Addr), v = .ref r ∧ Mb r = none ∧ Ma r = some (.lst (cellsL n c)) ∧ (∀ j, j < n → Mb (c j) = none ∧ Ma (c j) = some (.dN (knD (T i j)))) ∧ ∀ j j', j < n → j' < n → c j = c j' → j = j') (by rw [hn]; exact Nat.le_trans hz (by decide)) hS ?_ ?_
  · intro i x M' hx ext K hK
    have hi : i < n := by rw [← hn]; exact (List.getElem?_eq_some_iff.mp hx).1
    exact step i x M' hi hx ext K fun r c M'' e h1 h2 h3 h4 => hK _ _ e ⟨r, c, rfl, h1, h2, h3, h4⟩
  · intro f Mb Ma M' ext hf hd
    rw [hn] at hf hd ⊢
    have hc : ∀ i, ∃ (rc : Addr × (Nat → Addr)), i < n → f i = .ref rc.1 ∧ Mb i rc.1 = none ∧ Ma i rc.1 = some (.lst (cellsL n rc.2)) ∧ (∀ j, j < n → Mb i (rc.2 j) = none ∧ Ma i (rc.2 j) = some (.dN (knD (T i j)))) ∧ ∀ j j', j < n → j' < n → rc.2 j = rc.2 j' → j = j' := fun i => by
      by_cases h : i < n
      · obtain ⟨e1, e2, r, c, h1, h2, h3, h4, h5⟩ := hf i h
        exact ⟨(r, c), fun _ => ⟨h1, h2, h3, h4, h5⟩⟩
      · exact ⟨(0, fun _ => 0), fun z => absurd z h⟩
    have e : (List.range n).map f = cellsL n fun i => (Classical.choose (hc i)).1 := by
      refine List.map_congr_left fun j hj => ?_
      exact (Classical.choose_spec (hc j) (List.mem_range.mp hj)).1
    rw [e]
    have spec := fun i => Classical.choose_spec (hc i)
    generalize hrc : (fun i => Classical.choose (hc i)) = rc at spec
    have hrc' : ∀ i, Classical.choose (hc i) = rc i := fun i => by rw [← hrc]
    simp only [hrc'] at spec ⊢
    refine q (fun i => (rc i).1) (fun i => (rc i).2) M' ext (fun i hi => ?_) (fun i j hi hj => ?_) ?_
    · obtain ⟨_, h2, h3, _⟩ := spec i hi
      exact ⟨(hf i hi).1.free h2, (hf i hi).2.1 _ _ h3⟩
    · obtain ⟨_, _, _, h4, _⟩ := spec i hi
      exact ⟨(hf i hi).1.free (h4 j hj).1, (hf i hi).2.1 _ _ (h4 j hj).2⟩
    · intro i j i' j' hi hj hi' hj' z
      have z' : (rc i).2 j = (rc i').2 j' := z
      have a1 := (spec i hi).2.2.2.1 j hj
      have a2 := (spec i' hi').2.2.2.1 j' hj'
      rcases Nat.lt_trichotomy i i' with c | c | c
      · have := hd i i' c hi' _ _ a1.2
        rw [z', a2.1] at this
        cases this
      · subst c
        exact ⟨rfl, (spec i hi).2.2.2.2 j j' hj hj' z'⟩
      · have := hd i' i c hi _ _ a2.2
        rw [← z', a1.1] at this
        cases this
/-! ### the cells of a table change, nothing else -/
def CellsAt (n : Nat) (cell : Nat → Nat → Addr) (M : DM) (T : Tab) : Prop := ∀ i j, i < n → j < n → M (cell i j) = some (.dN (knD (T i j)))
def Out (n : Nat) (cell : Nat → Nat → Addr) (M M' : DM) : Prop := ∀ x o, M x = some o → (∀ i j, i < n → j < n → x ≠ cell i j) → M' x = some o
theorem Out.refl {n : Nat} {cell : Nat → Nat → Addr} (M : DM) : Out n cell M M := fun _ _ h _ => h
theorem Out.trans {n : Nat} {cell : Nat → Nat → Addr} {M1 M2 M3 : DM} (a : Out n cell M1 M2) (b : Out n cell M2 M3) : Out n cell M1 M3 := fun x o h k => b x o (a x o h k) k
theorem Out.put {n : Nat} {cell : Nat → Nat → Addr} {M : DM} {i j : Nat} (hi : i < n) (hj : j < n) (o : DO) : Out n cell M (DL.put M (cell i j) o) := fun x u h k => by rw [put_ne (k i j hi hj)]; exact h
theorem Out.lst {n : Nat} {cell : Nat → Nat → Addr} {M M' : DM} {T : Tab} (h : Out n cell M M') (c : CellsAt n cell M T) {x : Addr} {xs : List DV} (e : M x = some (.lst xs)) : M' x = some (.lst xs) :=
  h x _ e fun i j hi hj z => by rw [z, c i j hi hj] at e; cases e
theorem CellsAt.put {n : Nat} {cell : Nat → Nat → Addr} {M : DM} {T : Tab} (h : CellsAt n cell M T) (inj : InjC n cell) {i j : Nat} (hi : i < n) (hj : j < n) (s : Kn) : CellsAt n cell (DL.put M (cell i j) (.dN (knD s))) (tSet T i j s) := fun i' j' hi' hj' => by
  unfold tSet
  by_cases c : i' = i ∧ j' = j
  · rw [if_pos c, c.1, c.2, put_same]
  · rw [if_neg c, put_ne fun z => c (inj _ _ _ _ hi' hj' hi hj z)]
    exact h i' j' hi' hj'
def TOk (n m : Nat) (T : Tab) : Prop := ∀ i j, i < n → j < n → KnOk n m (T i j)
theorem TOk.set {n m : Nat} {T : Tab} (h : TOk n m T) (i j : Nat) {s : Kn} (hs : KnOk n m s) : TOk n m (tSet T i j s) := fun i' j' hi hj => by
  unfold tSet
  split
  · exact hs
  · exact h i' j' hi hj
theorem TOk.mono {n m m' : Nat} {T : Tab} (h : TOk n m T) (e : m ≤ m') : TOk n m' T := fun i j hi hj => (h i j hi hj).mono e
theorem TOk.tellRow {n m : Nat} {B T : Tab} (hB : TOk n m B) (hT : TOk n m T) {p : Nat × Nat} (h1 : p.1 < n) (h2 : p.2 < n) : ∀ k, k ≤ n → TOk n m (tellRow B T p k)
  | 0, _ => hT
  | k + 1, hk => by
    unfold DL.tellRow
    rw [List.range_succ, List.foldl_append]
    exact (TOk.tellRow hB hT h1 h2 k (by omega)).set _ _ ((TOk.tellRow hB hT h1 h2 k (by omega) _ _ h2 (by omega)).mrg (hB _ _ h1 (by omega)))
theorem TOk.tellT {n m : Nat} {B T : Tab} (hB : TOk n m B) (hT : TOk n m T) {p : Nat × Nat} (h1 : p.1 < n) (h2 : p.2 < n) : TOk n m (tellT n B T p) := by
  have := TOk.tellRow hB hT h1 h2 n (Nat.le_refl _)
  exact this.set _ _ ((this _ _ h2 h2).mrg (hB _ _ h1 h1))
theorem TOk.metT {n m : Nat} {B T : Tab} (hB : TOk n m B) (hT : TOk n m T) {p : Nat × Nat} (h1 : p.1 < n) (h2 : p.2 < n) : TOk n m (metT B T p) := hT.set _ _ ((hT _ _ h2 h1).mrg (hB _ _ h2 h2))
theorem TOk.foldT {n m : Nat} {B : Tab} {f : Tab → Nat × Nat → Tab} (hf : ∀ T p, TOk n m T → p.1 < n → p.2 < n → TOk n m (f T p)) : ∀ {ps : List (Nat × Nat)} {T : Tab}, TOk n m T → (∀ p ∈ ps, p.1 < n ∧ p.2 < n) → TOk n m (ps.foldl f T)
  | [], T, h, _ => h
  | p :: ps, T, h, hp => TOk.foldT (B := B) hf (ps := ps) (hf T p h (hp p (by simp)).1 (hp p (by simp)).2) fun q hq => hp q (by simp [hq])
theorem tPairs_ok {n : Nat} {act : Act} (ok : act.ok n) : ∀ p ∈ tPairs act, p.1 < n ∧ p.2 < n := by
  cases act with
  | make c => simp [tPairs]
  | tell a b => simp [tPairs]; exact ⟨ok.1, ok.2.1⟩
  | meet a b => simp [tPairs]; exact ⟨⟨ok.1, ok.2.1⟩, ok.2.1, ok.1⟩
structure TabInv (n i : Nat) (st : Tab × List Nat) : Prop where
  l2 : st.2.length = n
  kn : TOk n i st.1
  md : ∀ j, j < n → st.2.getD j 0 ≤ i
theorem TabInv.start (n : Nat) : TabInv n 0 (tab0 n) := ⟨by simp [tab0], fun i j _ _ => KnOk.nil, fun j hj => by simp [tab0, List.getD, hj]⟩
theorem TabInv.step {n i : Nat} {st : Tab × List Nat} (h : TabInv n i st) {act : Act} (ok : act.ok n) : TabInv n (i + 1) (tabStep n st act) := by
  have hk := h.kn.mono (Nat.le_succ i)
  have md : ∀ j, j < n → st.2.getD j 0 ≤ i + 1 := fun j hj => by have := h.md j hj; omega
  cases act with
  | make c =>
    have hc : c < n := ok
    refine ⟨by simp [tabStep, h.l2], hk.set _ _ ((hk c c hc hc).ins hc (by have := h.md c hc; omega)), fun j hj => ?_⟩
    show (st.2.set c (st.2.getD c 0 + 1)).getD j 0 ≤ i + 1
    by_cases e : j = c
    · subst e
      rw [getD_set_eq (by rw [h.l2]; exact hj)]
      have := h.md j hj
      omega
    · rw [getD_set_ne e]
      exact md j hj
  | tell a b => exact ⟨h.l2, TOk.foldT (B := st.1) (fun T p hT h1 h2 => TOk.tellT hk hT h1 h2) hk (tPairs_ok ok), md⟩
  | meet a b => exact ⟨h.l2, TOk.foldT (B := st.1) (fun T p hT h1 h2 => TOk.metT hk hT h1 h2) (TOk.foldT (B := st.1) (fun T p hT h1 h2 => TOk.tellT hk hT h1 h2) hk (tPairs_ok ok)) (tPairs_ok ok), md⟩
theorem TabInv.fold {n : Nat} {acts : List Act} (ok : ∀ x ∈ acts, x.ok n) : ∀ i, i ≤ acts.length → TabInv n i ((acts.take i).foldl (tabStep n) (tab0 n))
  | 0, _ => TabInv.start n
  | i + 1, h => by
    have hi : acts[i]? = some acts[i] := List.getElem?_eq_getElem (by omega)
    rw [foldl_take hi]
    exact (TabInv.fold ok i (by omega)).step (ok _ (List.getElem_mem _))
/-- rows[x][y].update(before[u][v]) -/
theorem upd_cell (w : World) {E : DEnds} {ρ : DSt} {M : DM} {x y u v n m : Nat} {i j k l : Nat} {p b : Addr} {row row' : Nat → Addr} {cell cell' : Nat → Nat → Addr} {T B : Tab} (h2 : ρ[2]? = some (some (.ref p))) (h5 : ρ[5]? = some (some (.ref b)))
    (hx : ρ[x]? = some (some (.d (.int i)))) (hy : ρ[y]? = some (some (.d (.int j)))) (hu : ρ[u]? = some (some (.d (.int k)))) (hv : ρ[v]? = some (some (.d (.int l)))) (li : i < n) (lj : j < n) (lk : k < n) (ll : l < n)
    (hp : M p = some (.lst (cellsL n row))) (hr : M (row i) = some (.lst (cellsL n (cell i)))) (hc : CellsAt n cell M T) (hb : M b = some (.lst (cellsL n row'))) (hr' : M (row' k) = some (.lst (cellsL n (cell' k)))) (hc' : M (cell' k l) = some (.dN (knD (B k l))))
    (ne : cell i j ≠ cell' k l) (kT : KnOk n m (T i j)) (kB : KnOk n m (B k l)) (hn : n ≤ 12) (hm : m ≤ 400) (q : E.nx ρ (put M (cell i j) (.dN (knD (mrg (T i j) (B k l)))))) :
    dDrop (dBM isDN (rUpdN w) (dOp rIxD (dOp rIxD (dVar 2) (dVar x)) (dVar y)) (dCons (dOp rIxD (dOp rIxD (dVar 5) (dVar u)) (dVar v)) dNil)) E ρ M := by
  refine wDrop (wBM (wOp (wOp (wVar h2 (wVar hx ?_)))))
  refine wIx i (seqOf_ref hp) (cells_get li) rfl (wVar hy ?_)
  refine wIx j (seqOf_ref hr) (cells_get lj) rfl ?_
  refine ⟨isDN_ref (hc i j li lj), wCons (wOp (wOp (wVar h5 (wVar hu ?_))))⟩
  refine wIx k (seqOf_ref hb) (cells_get lk) rfl (wVar hv ?_)
  refine wIx l (seqOf_ref hr') (cells_get ll) rfl ?_
  exact upd_knD (Q := fun _ M1 => E.nx ρ M1) w rfl (hc i j li lj) hc' ne kT kB hn hm q
end DL

set_option Elab.async false
set_option linter.all false
set_option maxRecDepth 100000
set_option maxHeartbeats 4000000
namespace DL
open PySem L2 PyProof.Rows
def pairV (p : Nat × Nat) : DV := .d (.tuple [.int p.1, .int p.2])
theorem rng_int {n i : Nat} {x : DV} (h : (rng 0 n)[i]? = some x) : i < n ∧ x = .d (.int (i : Nat)) := by
  have hi : i < n := by
    obtain ⟨h, _⟩ := List.getElem?_eq_some_iff.mp h
    simpa [rng] using h
  rw [rng_get hi] at h
  refine ⟨hi, ?_⟩
  rw [← Option.some.inj h]
  simp
theorem tellRow_succ (B T : Tab) (p : Nat × Nat) (k : Nat) : tellRow B T p (k + 1) = tSet (tellRow B T p k) p.2 k (mrg (tellRow B T p k p.2 k) (B p.1 k)) := by
  unfold tellRow
  rw [List.range_succ, List.foldl_append]
  rfl
theorem rd__law_tables (w : World) : ∀ ds M Q, sp__law_tables ds M Q → w__law_tables w { nx := fun _ M' => Q (.d .none) M', rt := Q } (dstart N__law_tables ds) M := by
  rintro ds M Q ⟨n, acts, rfl, hn1, hn2, hlen, hok, q⟩
  unfold w__law_tables
  (repeat (with_reducible (first | refine wSeq ?_ | refine wAsg ?_ | refine wRet ?_ | refine wDrop ?_ | refine wName ?_ | (apply wVar; (case h => with_unfolding_all rfl)) | refine wC ?_ | refine wOp ?_ | refine wUn ?_ | refine wNil ?_ | refine wCons ?_ | refine wCB ?_ | refine wCall ?_ | refine wTest ?_ | refine wBool ?_ | refine wInt ?_ | refine wIfS ?_ | refine wIf ?_ | refine wAnd ?_ | refine wOr ?_ | refine wNot ?_ | refine wAndV ?_ | refine wOrV ?_ | refine wNotV ?_ | refine wTup ?_ | refine wLst ?_ | refine wLstF ?_ | refine wSl ?_ | refine wNoPart ?_ | refine wPart ?_ | refine wBM ?_ | refine wSub ?_ | refine wFor ?_ | refine wIterL ?_ | refine wRng1 ?_ | refine wZip ?_ | refine wLc ?_ | refine wLcF ?_ | refine wYes ?_ | refine wAddI ?_ | refine wIntT ?_ | refine wInt1 ?_ | refine wInt2 ?_ | refine wNext ?_)))
  refine ⟨_, rfl, by omega, by omega, ?_⟩
  rw [Int.toNat_natCast]
  have rl : (rng 0 n).length = n := by simp [rng]
  refine lcW_tab (fun _ _ => []) rl (by omega) (fun _ _ => trivial) (fun i x M' hi hx ext K hK => ?_) fun row cell M1 ext1 hrow hcell inj => ?_
  · (repeat (with_reducible (first | refine wSeq ?_ | refine wAsg ?_ | refine wRet ?_ | refine wDrop ?_ | refine wName ?_ | (apply wVar; (case h => with_unfolding_all rfl)) | refine wC ?_ | refine wOp ?_ | refine wUn ?_ | refine wNil ?_ | refine wCons ?_ | refine wCB ?_ | refine wCall ?_ | refine wTest ?_ | refine wBool ?_ | refine wInt ?_ | refine wIfS ?_ | refine wIf ?_ | refine wAnd ?_ | refine wOr ?_ | refine wNot ?_ | refine wAndV ?_ | refine wOrV ?_ | refine wNotV ?_ | refine wTup ?_ | refine wLst ?_ | refine wLstF ?_ | refine wSl ?_ | refine wNoPart ?_ | refine wPart ?_ | refine wBM ?_ | refine wSub ?_ | refine wFor ?_ | refine wIterL ?_ | refine wRng1 ?_ | refine wZip ?_ | refine wLc ?_ | refine wLcF ?_ | refine wYes ?_ | refine wAddI ?_ | refine wIntT ?_ | refine wInt1 ?_ | refine wInt2 ?_ | refine wNext ?_)))
    refine ⟨_, rfl, by omega, by omega, ?_⟩
    rw [Int.toNat_natCast]
    refine lcW_objs (fun _ => .dN (knD [])) (lenOk (by rw [rl]; omega)) (fun _ _ => trivial) (fun j y M'' hy e K2 hK2 => ?_) fun c M2 e2 hc inj => ?_
    · (repeat (with_reducible (first | refine wSeq ?_ | refine wAsg ?_ | refine wRet ?_ | refine wDrop ?_ | refine wName ?_ | (apply wVar; (case h => with_unfolding_all rfl)) | refine wC ?_ | refine wOp ?_ | refine wUn ?_ | refine wNil ?_ | refine wCons ?_ | refine wCB ?_ | refine wCall ?_ | refine wTest ?_ | refine wBool ?_ | refine wInt ?_ | refine wIfS ?_ | refine wIf ?_ | refine wAnd ?_ | refine wOr ?_ | refine wNot ?_ | refine wAndV ?_ | refine wOrV ?_ | refine wNotV ?_ | refine wTup ?_ | refine wLst ?_ | refine wLstF ?_ | refine wSl ?_ | refine wNoPart ?_ | refine wPart ?_ | refine wBM ?_ | refine wSub ?_ | refine wFor ?_ | refine wIterL ?_ | refine wRng1 ?_ | refine wZip ?_ | refine wLc ?_ | refine wLcF ?_ | refine wYes ?_ | refine wAddI ?_ | refine wIntT ?_ | refine wInt1 ?_ | refine wInt2 ?_ | refine wNext ?_)))
      exact hK2
    rw [rl] at hc inj ⊢
    intro r hr
    exact hK r c _ (e2.trans (Ext.new hr _)) (e2.free hr) put_same (fun j hj => ⟨(hc j hj).1, by rw [put_ne (Ext.ne hr (hc j hj).2)]; exact (hc j hj).2⟩) inj
  intro p hp
  (repeat (with_reducible (first | refine wSeq ?_ | refine wAsg ?_ | refine wRet ?_ | refine wDrop ?_ | refine wName ?_ | (apply wVar; (case h => with_unfolding_all rfl)) | refine wC ?_ | refine wOp ?_ | refine wUn ?_ | refine wNil ?_ | refine wCons ?_ | refine wCB ?_ | refine wCall ?_ | refine wTest ?_ | refine wBool ?_ | refine wInt ?_ | refine wIfS ?_ | refine wIf ?_ | refine wAnd ?_ | refine wOr ?_ | refine wNot ?_ | refine wAndV ?_ | refine wOrV ?_ | refine wNotV ?_ | refine wTup ?_ | refine wLst ?_ | refine wLstF ?_ | refine wSl ?_ | refine wNoPart ?_ | refine wPart ?_ | refine wBM ?_ | refine wSub ?_ | refine wFor ?_ | refine wIterL ?_ | refine wRng1 ?_ | refine wZip ?_ | refine wLc ?_ | refine wLcF ?_ | refine wYes ?_ | refine wAddI ?_ | refine wIntT ?_ | refine wInt1 ?_ | refine wInt2 ?_ | refine wNext ?_)))
  refine ⟨lenOk (by simp), fun q1 hq1 => ?_⟩
  (repeat (with_reducible (first | refine wSeq ?_ | refine wAsg ?_ | refine wRet ?_ | refine wDrop ?_ | refine wName ?_ | (apply wVar; (case h => with_unfolding_all rfl)) | refine wC ?_ | refine wOp ?_ | refine wUn ?_ | refine wNil ?_ | refine wCons ?_ | refine wCB ?_ | refine wCall ?_ | refine wTest ?_ | refine wBool ?_ | refine wInt ?_ | refine wIfS ?_ | refine wIf ?_ | refine wAnd ?_ | refine wOr ?_ | refine wNot ?_ | refine wAndV ?_ | refine wOrV ?_ | refine wNotV ?_ | refine wTup ?_ | refine wLst ?_ | refine wLstF ?_ | refine wSl ?_ | refine wNoPart ?_ | refine wPart ?_ | refine wBM ?_ | refine wSub ?_ | refine wFor ?_ | refine wIterL ?_ | refine wRng1 ?_ | refine wZip ?_ | refine wLc ?_ | refine wLcF ?_ | refine wYes ?_ | refine wAddI ?_ | refine wIntT ?_ | refine wInt1 ?_ | refine wInt2 ?_ | refine wNext ?_)))
  refine wMulL (lstOf_ref put_same) (by omega) fun qa hqa => ?_
  (repeat (with_reducible (first | refine wAsg ?_ | refine wRet ?_ | refine wDrop ?_ | refine wName ?_ | (apply wVar; (case h => with_unfolding_all rfl)) | refine wC ?_ | refine wOp ?_ | refine wUn ?_ | refine wNil ?_ | refine wCons ?_ | refine wCB ?_ | refine wCall ?_ | refine wTest ?_ | refine wBool ?_ | refine wInt ?_ | refine wIfS ?_ | refine wIf ?_ | refine wAnd ?_ | refine wOr ?_ | refine wNot ?_ | refine wAndV ?_ | refine wOrV ?_ | refine wNotV ?_ | refine wTup ?_ | refine wLst ?_ | refine wLstF ?_ | refine wSl ?_ | refine wNoPart ?_ | refine wPart ?_ | refine wBM ?_ | refine wSub ?_ | refine wFor ?_ | refine wIterL ?_ | refine wRng1 ?_ | refine wZip ?_ | refine wLc ?_ | refine wLcF ?_ | refine wYes ?_ | refine wAddI ?_ | refine wIntT ?_ | refine wInt1 ?_ | refine wInt2 ?_ | refine wNext ?_)))
  with_reducible refine wSeq ?_
  (repeat (with_reducible (first | refine wSeq ?_ | refine wAsg ?_ | refine wRet ?_ | refine wDrop ?_ | refine wName ?_ | (apply wVar; (case h => with_unfolding_all rfl)) | refine wC ?_ | refine wOp ?_ | refine wUn ?_ | refine wNil ?_ | refine wCons ?_ | refine wCB ?_ | refine wCall ?_ | refine wTest ?_ | refine wBool ?_ | refine wInt ?_ | refine wIfS ?_ | refine wIf ?_ | refine wAnd ?_ | refine wOr ?_ | refine wNot ?_ | refine wAndV ?_ | refine wOrV ?_ | refine wNotV ?_ | refine wTup ?_ | refine wLst ?_ | refine wLstF ?_ | refine wSl ?_ | refine wNoPart ?_ | refine wPart ?_ | refine wBM ?_ | refine wSub ?_ | refine wFor ?_ | refine wIterL ?_ | refine wRng1 ?_ | refine wZip ?_ | refine wLc ?_ | refine wLcF ?_ | refine wYes ?_ | refine wAddI ?_ | refine wIntT ?_ | refine wInt1 ?_ | refine wInt2 ?_ | refine wNext ?_)))
  refine ⟨_, rfl, ?_⟩
  have hMp : M p = none := ext1.free hp
  have hMq : M qa = none := (ext1.trans ((Ext.new hp _).trans (Ext.new hq1 _))).free hqa
  have extA : Ext (put M1 p (.lst (cellsL n row))) (put (put (put M1 p (.lst (cellsL n row))) q1 (.lst [.d (.int 0)])) qa (.lst (List.replicate n (.d (.int 0))))) := (Ext.new hq1 _).trans (Ext.new hqa _)
  have npq : p ≠ qa := Ext.ne hqa (Ext.new hq1 _ _ _ put_same)
  have nrq : ∀ i, i < n → row i ≠ qa := fun i hi => Ext.ne hqa (Ext.new hq1 _ _ _ (Ext.new hp _ _ _ (hrow i hi).2))
  refine forW_inv (fun i ρ M' => ∃ (x4 x5 x6 x7 x8 x9 x10 x11 : Option DV), Ext M M' ∧ M' p = some (.lst (cellsL n row)) ∧ (∀ i, i < n → M' (row i) = some (.lst (cellsL n (cell i)))) ∧
      CellsAt n cell M' ((acts.take i).foldl (tabStep n) (tab0 n)).1 ∧ M' qa = some (.lst (((acts.take i).foldl (tabStep n) (tab0 n)).2.map fun n : Nat => .d (.int n))) ∧
      ρ = [some (.d (.int n)), some (.d (actsD acts)), some (.ref p), some (.ref qa), x4, x5, x6, x7, x8, x9, x10, x11]) ?_ ?_ ?_
  · refine ⟨none, none, none, none, none, none, none, none, ?_, ?_, fun i hi => ?_, fun i j hi hj => ?_, ?_, rfl⟩
    · exact ext1.trans ((Ext.new hp _).trans extA)
    · exact extA _ _ put_same
    · exact ((Ext.new hp _).trans extA) _ _ (hrow i hi).2
    · exact ((Ext.new hp _).trans extA) _ _ (hcell i j hi hj).2
    · rw [put_same]
      simp [tab0]
  · rintro i x ρ M' hx ⟨x4, x5, x6, x7, x8, x9, x10, x11, ext, hp', hrow', hcell', hqa', rfl⟩
    refine ⟨rfl, fun K hK => ?_⟩
    obtain ⟨act, ha, rfl⟩ : ∃ act, acts[i]? = some act ∧ x = .d act.data := by
      rw [List.getElem?_map, List.getElem?_map] at hx
      cases e : acts[i]? with
      | none => rw [e] at hx; simp at hx
      | some a => rw [e] at hx; exact ⟨a, rfl, (Option.some.inj hx).symm⟩
    have hi : i < acts.length := (List.getElem?_eq_some_iff.mp ha).1
    have aok : act.ok n := hok act (List.mem_of_getElem? ha)
    have inv := TabInv.fold hok i (by omega)
    have stepE : (acts.take (i + 1)).foldl (tabStep n) (tab0 n) = tabStep n ((acts.take i).foldl (tabStep n) (tab0 n)) act := foldl_take ha
    rw [stepE] at hK
    generalize (acts.take i).foldl (tabStep n) (tab0 n) = st at *
    have kn := inv.kn
    have fresh : ∀ i j, i < n → j < n → M (cell i j) = none := fun i j hi hj => (hcell i j hi hj).1
    have cq : ∀ i j, i < n → j < n → cell i j ≠ qa := fun i j hi hj => ne_of_val (hcell' i j hi hj) hqa' (by simp)
    have cp : ∀ i j, i < n → j < n → cell i j ≠ p := fun i j hi hj => ne_of_val (hcell' i j hi hj) hp' (by simp)
    have cr : ∀ i j l, i < n → j < n → l < n → row l ≠ cell i j := fun i j l hi hj hl => ne_of_val (hrow' l hl) (hcell' i j hi hj) (by simp)
    by_cases mk : ∃ a, act = .make a
    · obtain ⟨a, rfl⟩ := mk
      have ha' : a < n := aok
      (repeat (with_reducible (first | refine wSeq ?_ | refine wAsg ?_ | refine wRet ?_ | refine wDrop ?_ | refine wName ?_ | (apply wVar; (case h => with_unfolding_all rfl)) | refine wC ?_ | refine wOp ?_ | refine wUn ?_ | refine wNil ?_ | refine wCons ?_ | refine wCB ?_ | refine wCall ?_ | refine wTest ?_ | refine wBool ?_ | refine wInt ?_ | refine wIfS ?_ | refine wIf ?_ | refine wAnd ?_ | refine wOr ?_ | refine wNot ?_ | refine wAndV ?_ | refine wOrV ?_ | refine wNotV ?_ | refine wTup ?_ | refine wLst ?_ | refine wLstF ?_ | refine wSl ?_ | refine wNoPart ?_ | refine wPart ?_ | refine wBM ?_ | refine wSub ?_ | refine wFor ?_ | refine wIterL ?_ | refine wRng1 ?_ | refine wZip ?_ | refine wLc ?_ | refine wLcF ?_ | refine wYes ?_ | refine wAddI ?_ | refine wIntT ?_ | refine wInt1 ?_ | refine wInt2 ?_ | refine wNext ?_)))
      refine wIx 0 (d := .d (.str "make")) seqOf_tup rfl rfl ?_
      (repeat (with_reducible (first | refine wSeq ?_ | refine wAsg ?_ | refine wRet ?_ | refine wDrop ?_ | refine wName ?_ | (apply wVar; (case h => with_unfolding_all rfl)) | refine wC ?_ | refine wOp ?_ | refine wUn ?_ | refine wNil ?_ | refine wCons ?_ | refine wCB ?_ | refine wCall ?_ | refine wTest ?_ | refine wBool ?_ | refine wInt ?_ | refine wIfS ?_ | refine wIf ?_ | refine wAnd ?_ | refine wOr ?_ | refine wNot ?_ | refine wAndV ?_ | refine wOrV ?_ | refine wNotV ?_ | refine wTup ?_ | refine wLst ?_ | refine wLstF ?_ | refine wSl ?_ | refine wNoPart ?_ | refine wPart ?_ | refine wBM ?_ | refine wSub ?_ | refine wFor ?_ | refine wIterL ?_ | refine wRng1 ?_ | refine wZip ?_ | refine wLc ?_ | refine wLcF ?_ | refine wYes ?_ | refine wAddI ?_ | refine wIntT ?_ | refine wInt1 ?_ | refine wInt2 ?_ | refine wNext ?_)))
      refine wEqS ?_
      (repeat (with_reducible (first | refine wSeq ?_ | refine wAsg ?_ | refine wRet ?_ | refine wDrop ?_ | refine wName ?_ | (apply wVar; (case h => with_unfolding_all rfl)) | refine wC ?_ | refine wOp ?_ | refine wUn ?_ | refine wNil ?_ | refine wCons ?_ | refine wCB ?_ | refine wCall ?_ | refine wTest ?_ | refine wBool ?_ | refine wInt ?_ | refine wIfS ?_ | refine wIf ?_ | refine wAnd ?_ | refine wOr ?_ | refine wNot ?_ | refine wAndV ?_ | refine wOrV ?_ | refine wNotV ?_ | refine wTup ?_ | refine wLst ?_ | refine wLstF ?_ | refine wSl ?_ | refine wNoPart ?_ | refine wPart ?_ | refine wBM ?_ | refine wSub ?_ | refine wFor ?_ | refine wIterL ?_ | refine wRng1 ?_ | refine wZip ?_ | refine wLc ?_ | refine wLcF ?_ | refine wYes ?_ | refine wAddI ?_ | refine wIntT ?_ | refine wInt1 ?_ | refine wInt2 ?_ | refine wNext ?_)))
      rw [if_pos (by simp)]
      (repeat (with_reducible (first | refine wSeq ?_ | refine wAsg ?_ | refine wRet ?_ | refine wDrop ?_ | refine wName ?_ | (apply wVar; (case h => with_unfolding_all rfl)) | refine wC ?_ | refine wOp ?_ | refine wUn ?_ | refine wNil ?_ | refine wCons ?_ | refine wCB ?_ | refine wCall ?_ | refine wTest ?_ | refine wBool ?_ | refine wInt ?_ | refine wIfS ?_ | refine wIf ?_ | refine wAnd ?_ | refine wOr ?_ | refine wNot ?_ | refine wAndV ?_ | refine wOrV ?_ | refine wNotV ?_ | refine wTup ?_ | refine wLst ?_ | refine wLstF ?_ | refine wSl ?_ | refine wNoPart ?_ | refine wPart ?_ | refine wBM ?_ | refine wSub ?_ | refine wFor ?_ | refine wIterL ?_ | refine wRng1 ?_ | refine wZip ?_ | refine wLc ?_ | refine wLcF ?_ | refine wYes ?_ | refine wAddI ?_ | refine wIntT ?_ | refine wInt1 ?_ | refine wInt2 ?_ | refine wNext ?_)))
      refine wIx 1 (d := .d (.int a)) seqOf_tup rfl rfl ?_
      (repeat (with_reducible (first | refine wSeq ?_ | refine wAsg ?_ | refine wRet ?_ | refine wDrop ?_ | refine wName ?_ | (apply wVar; (case h => with_unfolding_all rfl)) | refine wC ?_ | refine wOp ?_ | refine wUn ?_ | refine wNil ?_ | refine wCons ?_ | refine wCB ?_ | refine wCall ?_ | refine wTest ?_ | refine wBool ?_ | refine wInt ?_ | refine wIfS ?_ | refine wIf ?_ | refine wAnd ?_ | refine wOr ?_ | refine wNot ?_ | refine wAndV ?_ | refine wOrV ?_ | refine wNotV ?_ | refine wTup ?_ | refine wLst ?_ | refine wLstF ?_ | refine wSl ?_ | refine wNoPart ?_ | refine wPart ?_ | refine wBM ?_ | refine wSub ?_ | refine wFor ?_ | refine wIterL ?_ | refine wRng1 ?_ | refine wZip ?_ | refine wLc ?_ | refine wLcF ?_ | refine wYes ?_ | refine wAddI ?_ | refine wIntT ?_ | refine wInt1 ?_ | refine wInt2 ?_ | refine wNext ?_)))
      refine wIx a (seqOf_ref hqa') (natV_get (by rw [inv.l2]; exact ha')) rfl ?_
      (repeat (with_reducible (first | refine wSeq ?_ | refine wAsg ?_ | refine wRet ?_ | refine wDrop ?_ | refine wName ?_ | (apply wVar; (case h => with_unfolding_all rfl)) | refine wC ?_ | refine wOp ?_ | refine wUn ?_ | refine wNil ?_ | refine wCons ?_ | refine wCB ?_ | refine wCall ?_ | refine wTest ?_ | refine wBool ?_ | refine wInt ?_ | refine wIfS ?_ | refine wIf ?_ | refine wAnd ?_ | refine wOr ?_ | refine wNot ?_ | refine wAndV ?_ | refine wOrV ?_ | refine wNotV ?_ | refine wTup ?_ | refine wLst ?_ | refine wLstF ?_ | refine wSl ?_ | refine wNoPart ?_ | refine wPart ?_ | refine wBM ?_ | refine wSub ?_ | refine wFor ?_ | refine wIterL ?_ | refine wRng1 ?_ | refine wZip ?_ | refine wLc ?_ | refine wLcF ?_ | refine wYes ?_ | refine wAddI ?_ | refine wIntT ?_ | refine wInt1 ?_ | refine wInt2 ?_ | refine wNext ?_)))
      refine wIx 1 (d := .d (.int a)) seqOf_tup rfl rfl ?_
      (repeat (with_reducible (first | refine wSeq ?_ | refine wAsg ?_ | refine wRet ?_ | refine wDrop ?_ | refine wName ?_ | (apply wVar; (case h => with_unfolding_all rfl)) | refine wC ?_ | refine wOp ?_ | refine wUn ?_ | refine wNil ?_ | refine wCons ?_ | refine wCB ?_ | refine wCall ?_ | refine wTest ?_ | refine wBool ?_ | refine wInt ?_ | refine wIfS ?_ | refine wIf ?_ | refine wAnd ?_ | refine wOr ?_ | refine wNot ?_ | refine wAndV ?_ | refine wOrV ?_ | refine wNotV ?_ | refine wTup ?_ | refine wLst ?_ | refine wLstF ?_ | refine wSl ?_ | refine wNoPart ?_ | refine wPart ?_ | refine wBM ?_ | refine wSub ?_ | refine wFor ?_ | refine wIterL ?_ | refine wRng1 ?_ | refine wZip ?_ | refine wLc ?_ | refine wLcF ?_ | refine wYes ?_ | refine wAddI ?_ | refine wIntT ?_ | refine wInt1 ?_ | refine wInt2 ?_ | refine wNext ?_)))
      refine wSetL a rfl hqa' (by simp [inv.l2]; exact ha') rfl ?_
      have setE : (st.2.map fun n : Nat => DV.d (.int n)).set a (.d (.int ((st.2.getD a 0 : Nat) + 1))) = (st.2.set a (st.2.getD a 0 + 1)).map fun n : Nat => DV.d (.int n) := by
        rw [List.map_set]
        rfl
      rw [setE]
      (repeat (with_reducible (first | refine wSeq ?_ | refine wAsg ?_ | refine wRet ?_ | refine wDrop ?_ | refine wName ?_ | (apply wVar; (case h => with_unfolding_all rfl)) | refine wC ?_ | refine wOp ?_ | refine wUn ?_ | refine wNil ?_ | refine wCons ?_ | refine wCB ?_ | refine wCall ?_ | refine wTest ?_ | refine wBool ?_ | refine wInt ?_ | refine wIfS ?_ | refine wIf ?_ | refine wAnd ?_ | refine wOr ?_ | refine wNot ?_ | refine wAndV ?_ | refine wOrV ?_ | refine wNotV ?_ | refine wTup ?_ | refine wLst ?_ | refine wLstF ?_ | refine wSl ?_ | refine wNoPart ?_ | refine wPart ?_ | refine wBM ?_ | refine wSub ?_ | refine wFor ?_ | refine wIterL ?_ | refine wRng1 ?_ | refine wZip ?_ | refine wLc ?_ | refine wLcF ?_ | refine wYes ?_ | refine wAddI ?_ | refine wIntT ?_ | refine wInt1 ?_ | refine wInt2 ?_ | refine wNext ?_)))
      refine wIx 1 (d := .d (.int a)) seqOf_tup rfl rfl ?_
      refine wIx a (seqOf_ref (by rw [put_ne npq]; exact hp')) (cells_get ha') rfl ?_
      (repeat (with_reducible (first | refine wSeq ?_ | refine wAsg ?_ | refine wRet ?_ | refine wDrop ?_ | refine wName ?_ | (apply wVar; (case h => with_unfolding_all rfl)) | refine wC ?_ | refine wOp ?_ | refine wUn ?_ | refine wNil ?_ | refine wCons ?_ | refine wCB ?_ | refine wCall ?_ | refine wTest ?_ | refine wBool ?_ | refine wInt ?_ | refine wIfS ?_ | refine wIf ?_ | refine wAnd ?_ | refine wOr ?_ | refine wNot ?_ | refine wAndV ?_ | refine wOrV ?_ | refine wNotV ?_ | refine wTup ?_ | refine wLst ?_ | refine wLstF ?_ | refine wSl ?_ | refine wNoPart ?_ | refine wPart ?_ | refine wBM ?_ | refine wSub ?_ | refine wFor ?_ | refine wIterL ?_ | refine wRng1 ?_ | refine wZip ?_ | refine wLc ?_ | refine wLcF ?_ | refine wYes ?_ | refine wAddI ?_ | refine wIntT ?_ | refine wInt1 ?_ | refine wInt2 ?_ | refine wNext ?_)))
      refine wIx 1 (d := .d (.int a)) seqOf_tup rfl rfl ?_
      refine wIx a (seqOf_ref (by rw [put_ne (nrq a ha')]; exact hrow' a ha')) (cells_get ha') rfl ?_
      (repeat (with_reducible (first | refine wSeq ?_ | refine wAsg ?_ | refine wRet ?_ | refine wDrop ?_ | refine wName ?_ | (apply wVar; (case h => with_unfolding_all rfl)) | refine wC ?_ | refine wOp ?_ | refine wUn ?_ | refine wNil ?_ | refine wCons ?_ | refine wCB ?_ | refine wCall ?_ | refine wTest ?_ | refine wBool ?_ | refine wInt ?_ | refine wIfS ?_ | refine wIf ?_ | refine wAnd ?_ | refine wOr ?_ | refine wNot ?_ | refine wAndV ?_ | refine wOrV ?_ | refine wNotV ?_ | refine wTup ?_ | refine wLst ?_ | refine wLstF ?_ | refine wSl ?_ | refine wNoPart ?_ | refine wPart ?_ | refine wBM ?_ | refine wSub ?_ | refine wFor ?_ | refine wIterL ?_ | refine wRng1 ?_ | refine wZip ?_ | refine wLc ?_ | refine wLcF ?_ | refine wYes ?_ | refine wAddI ?_ | refine wIntT ?_ | refine wInt1 ?_ | refine wInt2 ?_ | refine wNext ?_)))
      refine wIx 1 (d := .d (.int a)) seqOf_tup rfl rfl ?_
      (repeat (with_reducible (first | refine wSeq ?_ | refine wAsg ?_ | refine wRet ?_ | refine wDrop ?_ | refine wName ?_ | (apply wVar; (case h => with_unfolding_all rfl)) | refine wC ?_ | refine wOp ?_ | refine wUn ?_ | refine wNil ?_ | refine wCons ?_ | refine wCB ?_ | refine wCall ?_ | refine wTest ?_ | refine wBool ?_ | refine wInt ?_ | refine wIfS ?_ | refine wIf ?_ | refine wAnd ?_ | refine wOr ?_ | refine wNot ?_ | refine wAndV ?_ | refine wOrV ?_ | refine wNotV ?_ | refine wTup ?_ | refine wLst ?_ | refine wLstF ?_ | refine wSl ?_ | refine wNoPart ?_ | refine wPart ?_ | refine wBM ?_ | refine wSub ?_ | refine wFor ?_ | refine wIterL ?_ | refine wRng1 ?_ | refine wZip ?_ | refine wLc ?_ | refine wLcF ?_ | refine wYes ?_ | refine wAddI ?_ | refine wIntT ?_ | refine wInt1 ?_ | refine wInt2 ?_ | refine wNext ?_)))
      refine wIx 1 (d := .d (.int a)) seqOf_tup rfl rfl ?_
      (repeat (with_reducible (first | refine wSeq ?_ | refine wAsg ?_ | refine wRet ?_ | refine wDrop ?_ | refine wName ?_ | (apply wVar; (case h => with_unfolding_all rfl)) | refine wC ?_ | refine wOp ?_ | refine wUn ?_ | refine wNil ?_ | refine wCons ?_ | refine wCB ?_ | refine wCall ?_ | refine wTest ?_ | refine wBool ?_ | refine wInt ?_ | refine wIfS ?_ | refine wIf ?_ | refine wAnd ?_ | refine wOr ?_ | refine wNot ?_ | refine wAndV ?_ | refine wOrV ?_ | refine wNotV ?_ | refine wTup ?_ | refine wLst ?_ | refine wLstF ?_ | refine wSl ?_ | refine wNoPart ?_ | refine wPart ?_ | refine wBM ?_ | refine wSub ?_ | refine wFor ?_ | refine wIterL ?_ | refine wRng1 ?_ | refine wZip ?_ | refine wLc ?_ | refine wLcF ?_ | refine wYes ?_ | refine wAddI ?_ | refine wIntT ?_ | refine wInt1 ?_ | refine wInt2 ?_ | refine wNext ?_)))
      refine wIx a (seqOf_ref put_same) (natV_get (by simp [inv.l2]; exact ha')) rfl ?_
      rw [getD_set_eq (by rw [inv.l2]; exact ha')]
      (repeat (with_reducible (first | refine wSeq ?_ | refine wAsg ?_ | refine wRet ?_ | refine wDrop ?_ | refine wName ?_ | (apply wVar; (case h => with_unfolding_all rfl)) | refine wC ?_ | refine wOp ?_ | refine wUn ?_ | refine wNil ?_ | refine wCons ?_ | refine wCB ?_ | refine wCall ?_ | refine wTest ?_ | refine wBool ?_ | refine wInt ?_ | refine wIfS ?_ | refine wIf ?_ | refine wAnd ?_ | refine wOr ?_ | refine wNot ?_ | refine wAndV ?_ | refine wOrV ?_ | refine wNotV ?_ | refine wTup ?_ | refine wLst ?_ | refine wLstF ?_ | refine wSl ?_ | refine wNoPart ?_ | refine wPart ?_ | refine wBM ?_ | refine wSub ?_ | refine wFor ?_ | refine wIterL ?_ | refine wRng1 ?_ | refine wZip ?_ | refine wLc ?_ | refine wLcF ?_ | refine wYes ?_ | refine wAddI ?_ | refine wIntT ?_ | refine wInt1 ?_ | refine wInt2 ?_ | refine wNext ?_)))
      refine ⟨lenOk (by simp), ?_⟩
      have dl := (kn a a ha' ha').len hn2 (by omega)
      refine ⟨cell a a, knD (st.1 a a), keyN a (st.2.getD a 0 + 1), rfl, by rw [put_ne (cq a a ha' ha')]; exact hcell' a a ha' ha', keyOf_pair a (st.2.getD a 0 + 1), keyN_depth _ _, by rw [knD_len]; exact Nat.lt_of_le_of_lt dl (by decide), ?_⟩
      rw [dput_knD]
      refine hK _ _ ⟨_, _, _, _, _, _, _, _, (ext.put hMq _).put (fresh a a ha' ha') _, ?_, fun l hl => ?_, ?_, ?_, rfl⟩
      · rw [put_ne (cp a a ha' ha').symm, put_ne npq]; exact hp'
      · rw [put_ne (cr a a l ha' ha' hl), put_ne (nrq l hl)]; exact hrow' l hl
      · exact CellsAt.put (T := st.1) (fun i j hi hj => by rw [put_ne (cq i j hi hj)]; exact hcell' i j hi hj) inj ha' ha' _
      · rw [put_ne (cq a a ha' ha').symm, put_same]; rfl
    · have two : ∃ (kind : Str) (a b : Nat), act.data = .tuple [.str kind, .int a, .int b] ∧ a < n ∧ b < n ∧ kind ≠ "make" ∧ ((kind = "meet" ∧ act = .meet a b) ∨ (kind ≠ "meet" ∧ act = .tell a b)) := by
        cases act with
        | make a => exact absurd ⟨a, rfl⟩ mk
        | tell a b => exact ⟨"tell", a, b, rfl, aok.1, aok.2.1, sim_make.2.2.1, .inr ⟨sim_make.2.2.2.1, rfl⟩⟩
        | meet a b => exact ⟨"meet", a, b, rfl, aok.1, aok.2.1, sim_make.2.2.2.2.1, .inl ⟨rfl, rfl⟩⟩
      obtain ⟨kind, a, b, hdata, ha', hb', nmk, hkind⟩ := two
      rw [hdata]
      (repeat (with_reducible (first | refine wSeq ?_ | refine wAsg ?_ | refine wRet ?_ | refine wDrop ?_ | refine wName ?_ | (apply wVar; (case h => with_unfolding_all rfl)) | refine wC ?_ | refine wOp ?_ | refine wUn ?_ | refine wNil ?_ | refine wCons ?_ | refine wCB ?_ | refine wCall ?_ | refine wTest ?_ | refine wBool ?_ | refine wInt ?_ | refine wIfS ?_ | refine wIf ?_ | refine wAnd ?_ | refine wOr ?_ | refine wNot ?_ | refine wAndV ?_ | refine wOrV ?_ | refine wNotV ?_ | refine wTup ?_ | refine wLst ?_ | refine wLstF ?_ | refine wSl ?_ | refine wNoPart ?_ | refine wPart ?_ | refine wBM ?_ | refine wSub ?_ | refine wFor ?_ | refine wIterL ?_ | refine wRng1 ?_ | refine wZip ?_ | refine wLc ?_ | refine wLcF ?_ | refine wYes ?_ | refine wAddI ?_ | refine wIntT ?_ | refine wInt1 ?_ | refine wInt2 ?_ | refine wNext ?_)))
      refine wIx 0 (d := .d (.str kind)) seqOf_tup rfl rfl ?_
      (repeat (with_reducible (first | refine wSeq ?_ | refine wAsg ?_ | refine wRet ?_ | refine wDrop ?_ | refine wName ?_ | (apply wVar; (case h => with_unfolding_all rfl)) | refine wC ?_ | refine wOp ?_ | refine wUn ?_ | refine wNil ?_ | refine wCons ?_ | refine wCB ?_ | refine wCall ?_ | refine wTest ?_ | refine wBool ?_ | refine wInt ?_ | refine wIfS ?_ | refine wIf ?_ | refine wAnd ?_ | refine wOr ?_ | refine wNot ?_ | refine wAndV ?_ | refine wOrV ?_ | refine wNotV ?_ | refine wTup ?_ | refine wLst ?_ | refine wLstF ?_ | refine wSl ?_ | refine wNoPart ?_ | refine wPart ?_ | refine wBM ?_ | refine wSub ?_ | refine wFor ?_ | refine wIterL ?_ | refine wRng1 ?_ | refine wZip ?_ | refine wLc ?_ | refine wLcF ?_ | refine wYes ?_ | refine wAddI ?_ | refine wIntT ?_ | refine wInt1 ?_ | refine wInt2 ?_ | refine wNext ?_)))
      refine wEqS ?_
      (repeat (with_reducible (first | refine wSeq ?_ | refine wAsg ?_ | refine wRet ?_ | refine wDrop ?_ | refine wName ?_ | (apply wVar; (case h => with_unfolding_all rfl)) | refine wC ?_ | refine wOp ?_ | refine wUn ?_ | refine wNil ?_ | refine wCons ?_ | refine wCB ?_ | refine wCall ?_ | refine wTest ?_ | refine wBool ?_ | refine wInt ?_ | refine wIfS ?_ | refine wIf ?_ | refine wAnd ?_ | refine wOr ?_ | refine wNot ?_ | refine wAndV ?_ | refine wOrV ?_ | refine wNotV ?_ | refine wTup ?_ | refine wLst ?_ | refine wLstF ?_ | refine wSl ?_ | refine wNoPart ?_ | refine wPart ?_ | refine wBM ?_ | refine wSub ?_ | refine wFor ?_ | refine wIterL ?_ | refine wRng1 ?_ | refine wZip ?_ | refine wLc ?_ | refine wLcF ?_ | refine wYes ?_ | refine wAddI ?_ | refine wIntT ?_ | refine wInt1 ?_ | refine wInt2 ?_ | refine wNext ?_)))
      rw [if_neg (by simp only [decide_eq_true_eq]; exact nmk)]
      (repeat (with_reducible (first | refine wSeq ?_ | refine wAsg ?_ | refine wRet ?_ | refine wDrop ?_ | refine wName ?_ | (apply wVar; (case h => with_unfolding_all rfl)) | refine wC ?_ | refine wOp ?_ | refine wUn ?_ | refine wNil ?_ | refine wCons ?_ | refine wCB ?_ | refine wCall ?_ | refine wTest ?_ | refine wBool ?_ | refine wInt ?_ | refine wIfS ?_ | refine wIf ?_ | refine wAnd ?_ | refine wOr ?_ | refine wNot ?_ | refine wAndV ?_ | refine wOrV ?_ | refine wNotV ?_ | refine wTup ?_ | refine wLst ?_ | refine wLstF ?_ | refine wSl ?_ | refine wNoPart ?_ | refine wPart ?_ | refine wBM ?_ | refine wSub ?_ | refine wFor ?_ | refine wIterL ?_ | refine wRng1 ?_ | refine wZip ?_ | refine wLc ?_ | refine wLcF ?_ | refine wYes ?_ | refine wAddI ?_ | refine wIntT ?_ | refine wInt1 ?_ | refine wInt2 ?_ | refine wNext ?_)))
      refine ⟨_, listOf_ref hp', ?_⟩
      have cl : (cellsL n row).length = n := by simp [cellsL]
      refine lcW_tab st.1 cl (by omega) (fun M'' e => listOf_ref (e _ _ hp')) (fun l x M'' hl hx e K2 hK2 => ?_) fun row' cell' M2 ext2 hrow2 hcell2 inj2 => ?_
      · rw [show cellsL n row = (List.range n).map fun j => DV.ref (row j) from rfl, cells_get hl] at hx
        obtain rfl := Option.some.inj hx
        (repeat (with_reducible (first | refine wSeq ?_ | refine wAsg ?_ | refine wRet ?_ | refine wDrop ?_ | refine wName ?_ | (apply wVar; (case h => with_unfolding_all rfl)) | refine wC ?_ | refine wOp ?_ | refine wUn ?_ | refine wNil ?_ | refine wCons ?_ | refine wCB ?_ | refine wCall ?_ | refine wTest ?_ | refine wBool ?_ | refine wInt ?_ | refine wIfS ?_ | refine wIf ?_ | refine wAnd ?_ | refine wOr ?_ | refine wNot ?_ | refine wAndV ?_ | refine wOrV ?_ | refine wNotV ?_ | refine wTup ?_ | refine wLst ?_ | refine wLstF ?_ | refine wSl ?_ | refine wNoPart ?_ | refine wPart ?_ | refine wBM ?_ | refine wSub ?_ | refine wFor ?_ | refine wIterL ?_ | refine wRng1 ?_ | refine wZip ?_ | refine wLc ?_ | refine wLcF ?_ | refine wYes ?_ | refine wAddI ?_ | refine wIntT ?_ | refine wInt1 ?_ | refine wInt2 ?_ | refine wNext ?_)))
        refine ⟨_, listOf_ref (e _ _ (hrow' l hl)), ?_⟩
        have cl2 : (cellsL n (cell l)).length = n := by simp [cellsL]
        refine lcW_objs (fun j => .dN (knD (st.1 l j))) (lenOk (by rw [cl2]; omega)) (fun M3 e3 => listOf_ref (e3 _ _ (e _ _ (hrow' l hl)))) (fun j y M3 hy e3 K3 hK3 => ?_) fun c M3 e3 hc injc => ?_
        · have hj : j < n := by rw [← cl2]; exact (List.getElem?_eq_some_iff.mp hy).1
          rw [show cellsL n (cell l) = (List.range n).map fun j => DV.ref (cell l j) from rfl, cells_get hj] at hy
          obtain rfl := Option.some.inj hy
          (repeat (with_reducible (first | refine wSeq ?_ | refine wAsg ?_ | refine wRet ?_ | refine wDrop ?_ | refine wName ?_ | (apply wVar; (case h => with_unfolding_all rfl)) | refine wC ?_ | refine wOp ?_ | refine wUn ?_ | refine wNil ?_ | refine wCons ?_ | refine wCB ?_ | refine wCall ?_ | refine wTest ?_ | refine wBool ?_ | refine wInt ?_ | refine wIfS ?_ | refine wIf ?_ | refine wAnd ?_ | refine wOr ?_ | refine wNot ?_ | refine wAndV ?_ | refine wOrV ?_ | refine wNotV ?_ | refine wTup ?_ | refine wLst ?_ | refine wLstF ?_ | refine wSl ?_ | refine wNoPart ?_ | refine wPart ?_ | refine wBM ?_ | refine wSub ?_ | refine wFor ?_ | refine wIterL ?_ | refine wRng1 ?_ | refine wZip ?_ | refine wLc ?_ | refine wLcF ?_ | refine wYes ?_ | refine wAddI ?_ | refine wIntT ?_ | refine wInt1 ?_ | refine wInt2 ?_ | refine wNext ?_)))
          exact ⟨cell l j, _, rfl, e3 _ _ (e _ _ (hcell' l j hl hj)), (kn l j hl hj).hash w hn2 (by omega), fun r hr => hK3 r hr⟩
        rw [cl2] at hc injc ⊢
        intro r hr
        exact hK2 r c _ (e3.trans (Ext.new hr _)) (e3.free hr) put_same (fun j hj => ⟨(hc j hj).1, by rw [put_ne (Ext.ne hr (hc j hj).2)]; exact (hc j hj).2⟩) injc
      intro b0 hb0
      (repeat (with_reducible (first | refine wSeq ?_ | refine wAsg ?_ | refine wRet ?_ | refine wDrop ?_ | refine wName ?_ | (apply wVar; (case h => with_unfolding_all rfl)) | refine wC ?_ | refine wOp ?_ | refine wUn ?_ | refine wNil ?_ | refine wCons ?_ | refine wCB ?_ | refine wCall ?_ | refine wTest ?_ | refine wBool ?_ | refine wInt ?_ | refine wIfS ?_ | refine wIf ?_ | refine wAnd ?_ | refine wOr ?_ | refine wNot ?_ | refine wAndV ?_ | refine wOrV ?_ | refine wNotV ?_ | refine wTup ?_ | refine wLst ?_ | refine wLstF ?_ | refine wSl ?_ | refine wNoPart ?_ | refine wPart ?_ | refine wBM ?_ | refine wSub ?_ | refine wFor ?_ | refine wIterL ?_ | refine wRng1 ?_ | refine wZip ?_ | refine wLc ?_ | refine wLcF ?_ | refine wYes ?_ | refine wAddI ?_ | refine wIntT ?_ | refine wInt1 ?_ | refine wInt2 ?_ | refine wNext ?_)))
      refine wIx 1 (d := .d (.int a)) seqOf_tup rfl rfl ?_
      (repeat (with_reducible (first | refine wSeq ?_ | refine wAsg ?_ | refine wRet ?_ | refine wDrop ?_ | refine wName ?_ | (apply wVar; (case h => with_unfolding_all rfl)) | refine wC ?_ | refine wOp ?_ | refine wUn ?_ | refine wNil ?_ | refine wCons ?_ | refine wCB ?_ | refine wCall ?_ | refine wTest ?_ | refine wBool ?_ | refine wInt ?_ | refine wIfS ?_ | refine wIf ?_ | refine wAnd ?_ | refine wOr ?_ | refine wNot ?_ | refine wAndV ?_ | refine wOrV ?_ | refine wNotV ?_ | refine wTup ?_ | refine wLst ?_ | refine wLstF ?_ | refine wSl ?_ | refine wNoPart ?_ | refine wPart ?_ | refine wBM ?_ | refine wSub ?_ | refine wFor ?_ | refine wIterL ?_ | refine wRng1 ?_ | refine wZip ?_ | refine wLc ?_ | refine wLcF ?_ | refine wYes ?_ | refine wAddI ?_ | refine wIntT ?_ | refine wInt1 ?_ | refine wInt2 ?_ | refine wNext ?_)))
      refine wIx 2 (d := .d (.int b)) seqOf_tup rfl rfl ?_
      (repeat (with_reducible (first | refine wSeq ?_ | refine wAsg ?_ | refine wRet ?_ | refine wDrop ?_ | refine wName ?_ | (apply wVar; (case h => with_unfolding_all rfl)) | refine wC ?_ | refine wOp ?_ | refine wUn ?_ | refine wNil ?_ | refine wCons ?_ | refine wCB ?_ | refine wCall ?_ | refine wTest ?_ | refine wBool ?_ | refine wInt ?_ | refine wIfS ?_ | refine wIf ?_ | refine wAnd ?_ | refine wOr ?_ | refine wNot ?_ | refine wAndV ?_ | refine wOrV ?_ | refine wNotV ?_ | refine wTup ?_ | refine wLst ?_ | refine wLstF ?_ | refine wSl ?_ | refine wNoPart ?_ | refine wPart ?_ | refine wBM ?_ | refine wSub ?_ | refine wFor ?_ | refine wIterL ?_ | refine wRng1 ?_ | refine wZip ?_ | refine wLc ?_ | refine wLcF ?_ | refine wYes ?_ | refine wAddI ?_ | refine wIntT ?_ | refine wInt1 ?_ | refine wInt2 ?_ | refine wNext ?_)))
      refine ⟨lenOk (by simp), ?_⟩
      (repeat (with_reducible (first | refine wSeq ?_ | refine wAsg ?_ | refine wRet ?_ | refine wDrop ?_ | refine wName ?_ | (apply wVar; (case h => with_unfolding_all rfl)) | refine wC ?_ | refine wOp ?_ | refine wUn ?_ | refine wNil ?_ | refine wCons ?_ | refine wCB ?_ | refine wCall ?_ | refine wTest ?_ | refine wBool ?_ | refine wInt ?_ | refine wIfS ?_ | refine wIf ?_ | refine wAnd ?_ | refine wOr ?_ | refine wNot ?_ | refine wAndV ?_ | refine wOrV ?_ | refine wNotV ?_ | refine wTup ?_ | refine wLst ?_ | refine wLstF ?_ | refine wSl ?_ | refine wNoPart ?_ | refine wPart ?_ | refine wBM ?_ | refine wSub ?_ | refine wFor ?_ | refine wIterL ?_ | refine wRng1 ?_ | refine wZip ?_ | refine wLc ?_ | refine wLcF ?_ | refine wYes ?_ | refine wAddI ?_ | refine wIntT ?_ | refine wInt1 ?_ | refine wInt2 ?_ | refine wNext ?_)))
      refine ⟨lenOk (by simp), fun pr hpr => ?_⟩
      (repeat (with_reducible (first | refine wAsg ?_ | refine wRet ?_ | refine wDrop ?_ | refine wName ?_ | (apply wVar; (case h => with_unfolding_all rfl)) | refine wC ?_ | refine wOp ?_ | refine wUn ?_ | refine wNil ?_ | refine wCons ?_ | refine wCB ?_ | refine wCall ?_ | refine wTest ?_ | refine wBool ?_ | refine wInt ?_ | refine wIfS ?_ | refine wIf ?_ | refine wAnd ?_ | refine wOr ?_ | refine wNot ?_ | refine wAndV ?_ | refine wOrV ?_ | refine wNotV ?_ | refine wTup ?_ | refine wLst ?_ | refine wLstF ?_ | refine wSl ?_ | refine wNoPart ?_ | refine wPart ?_ | refine wBM ?_ | refine wSub ?_ | refine wFor ?_ | refine wIterL ?_ | refine wRng1 ?_ | refine wZip ?_ | refine wLc ?_ | refine wLcF ?_ | refine wYes ?_ | refine wAddI ?_ | refine wIntT ?_ | refine wInt1 ?_ | refine wInt2 ?_ | refine wNext ?_)))
      have e2 : Ext M' (put (put M2 b0 (.lst (cellsL n row'))) pr (.lst [mkTup [.d (.int a), .d (.int b)]])) := (ext2.trans (Ext.new hb0 _)).trans (Ext.new hpr _)
      have bpr : b0 ≠ pr := Ext.ne hpr put_same
      have hprM : M pr = none := (ext.trans (ext2.trans (Ext.new hb0 _))).free hpr
      -- behind the pairs
      with_reducible refine wMid (fun ρ M3 => Ext M M3 ∧ (∀ x o, M' x = some o → M3 x = some o) ∧ M3 b0 = some (.lst (cellsL n row')) ∧ (∀ l, l < n → M3 (row' l) = some (.lst (cellsL n (cell' l)))) ∧ CellsAt n cell' M3 st.1 ∧ M3 pr = some (.lst ((tPairs act).map pairV)) ∧
        ρ = [some (.d (.int n)), some (.d (actsD acts)), some (.ref p), some (.ref qa), some (.d (.tuple [.str kind, .int a, .int b])), some (.ref b0), some (.ref pr), x7, x8, x9, x10, x11]) ?_ ?_
      · intro K1 hK1
        have done : ∀ L, L = (tPairs act).map pairV → K1 [some (.d (.int n)), some (.d (actsD acts)), some (.ref p), some (.ref qa), some (.d (.tuple [.str kind, .int a, .int b])), some (.ref b0), some (.ref pr), x7, x8, x9, x10, x11] (put (put M2 b0 (.lst (cellsL n row'))) pr (.lst L)) := by
          intro L hL
          have f1 : Ext (put M2 b0 (.lst (cellsL n row'))) (put (put M2 b0 (.lst (cellsL n row'))) pr (.lst L)) := Ext.new hpr _
          have f2 : Ext M2 (put (put M2 b0 (.lst (cellsL n row'))) pr (.lst L)) := (Ext.new hb0 _).trans f1
          refine hK1 _ _ ⟨(ext.trans ext2).trans f2, fun x o h => f2 _ _ (ext2 _ _ h), f1 _ _ put_same, fun l hl => f2 _ _ (hrow2 l hl).2, fun i j hi hj => f2 _ _ (hcell2 i j hi hj).2, ?_, rfl⟩
          rw [put_same, hL]
        (repeat (with_reducible (first | refine wSeq ?_ | refine wAsg ?_ | refine wRet ?_ | refine wDrop ?_ | refine wName ?_ | (apply wVar; (case h => with_unfolding_all rfl)) | refine wC ?_ | refine wOp ?_ | refine wUn ?_ | refine wNil ?_ | refine wCons ?_ | refine wCB ?_ | refine wCall ?_ | refine wTest ?_ | refine wBool ?_ | refine wInt ?_ | refine wIfS ?_ | refine wIf ?_ | refine wAnd ?_ | refine wOr ?_ | refine wNot ?_ | refine wAndV ?_ | refine wOrV ?_ | refine wNotV ?_ | refine wTup ?_ | refine wLst ?_ | refine wLstF ?_ | refine wSl ?_ | refine wNoPart ?_ | refine wPart ?_ | refine wBM ?_ | refine wSub ?_ | refine wFor ?_ | refine wIterL ?_ | refine wRng1 ?_ | refine wZip ?_ | refine wLc ?_ | refine wLcF ?_ | refine wYes ?_ | refine wAddI ?_ | refine wIntT ?_ | refine wInt1 ?_ | refine wInt2 ?_ | refine wNext ?_)))
        refine wIx 0 (d := .d (.str kind)) seqOf_tup rfl rfl ?_
        (repeat (with_reducible (first | refine wSeq ?_ | refine wAsg ?_ | refine wRet ?_ | refine wDrop ?_ | refine wName ?_ | (apply wVar; (case h => with_unfolding_all rfl)) | refine wC ?_ | refine wOp ?_ | refine wUn ?_ | refine wNil ?_ | refine wCons ?_ | refine wCB ?_ | refine wCall ?_ | refine wTest ?_ | refine wBool ?_ | refine wInt ?_ | refine wIfS ?_ | refine wIf ?_ | refine wAnd ?_ | refine wOr ?_ | refine wNot ?_ | refine wAndV ?_ | refine wOrV ?_ | refine wNotV ?_ | refine wTup ?_ | refine wLst ?_ | refine wLstF ?_ | refine wSl ?_ | refine wNoPart ?_ | refine wPart ?_ | refine wBM ?_ | refine wSub ?_ | refine wFor ?_ | refine wIterL ?_ | refine wRng1 ?_ | refine wZip ?_ | refine wLc ?_ | refine wLcF ?_ | refine wYes ?_ | refine wAddI ?_ | refine wIntT ?_ | refine wInt1 ?_ | refine wInt2 ?_ | refine wNext ?_)))
        refine wEqS ?_
        (repeat (with_reducible (first | refine wSeq ?_ | refine wAsg ?_ | refine wRet ?_ | refine wDrop ?_ | refine wName ?_ | (apply wVar; (case h => with_unfolding_all rfl)) | refine wC ?_ | refine wOp ?_ | refine wUn ?_ | refine wNil ?_ | refine wCons ?_ | refine wCB ?_ | refine wCall ?_ | refine wTest ?_ | refine wBool ?_ | refine wInt ?_ | refine wIfS ?_ | refine wIf ?_ | refine wAnd ?_ | refine wOr ?_ | refine wNot ?_ | refine wAndV ?_ | refine wOrV ?_ | refine wNotV ?_ | refine wTup ?_ | refine wLst ?_ | refine wLstF ?_ | refine wSl ?_ | refine wNoPart ?_ | refine wPart ?_ | refine wBM ?_ | refine wSub ?_ | refine wFor ?_ | refine wIterL ?_ | refine wRng1 ?_ | refine wZip ?_ | refine wLc ?_ | refine wLcF ?_ | refine wYes ?_ | refine wAddI ?_ | refine wIntT ?_ | refine wInt1 ?_ | refine wInt2 ?_ | refine wNext ?_)))
        rcases hkind with ⟨km, ka⟩ | ⟨km, ka⟩
        · rw [if_pos (by simp [km])]
          (repeat (with_reducible (first | refine wSeq ?_ | refine wAsg ?_ | refine wRet ?_ | refine wDrop ?_ | refine wName ?_ | (apply wVar; (case h => with_unfolding_all rfl)) | refine wC ?_ | refine wOp ?_ | refine wUn ?_ | refine wNil ?_ | refine wCons ?_ | refine wCB ?_ | refine wCall ?_ | refine wTest ?_ | refine wBool ?_ | refine wInt ?_ | refine wIfS ?_ | refine wIf ?_ | refine wAnd ?_ | refine wOr ?_ | refine wNot ?_ | refine wAndV ?_ | refine wOrV ?_ | refine wNotV ?_ | refine wTup ?_ | refine wLst ?_ | refine wLstF ?_ | refine wSl ?_ | refine wNoPart ?_ | refine wPart ?_ | refine wBM ?_ | refine wSub ?_ | refine wFor ?_ | refine wIterL ?_ | refine wRng1 ?_ | refine wZip ?_ | refine wLc ?_ | refine wLcF ?_ | refine wYes ?_ | refine wAddI ?_ | refine wIntT ?_ | refine wInt1 ?_ | refine wInt2 ?_ | refine wNext ?_)))
          refine ⟨isLst_ref put_same, ?_⟩
          (repeat (with_reducible (first | refine wSeq ?_ | refine wAsg ?_ | refine wRet ?_ | refine wDrop ?_ | refine wName ?_ | (apply wVar; (case h => with_unfolding_all rfl)) | refine wC ?_ | refine wOp ?_ | refine wUn ?_ | refine wNil ?_ | refine wCons ?_ | refine wCB ?_ | refine wCall ?_ | refine wTest ?_ | refine wBool ?_ | refine wInt ?_ | refine wIfS ?_ | refine wIf ?_ | refine wAnd ?_ | refine wOr ?_ | refine wNot ?_ | refine wAndV ?_ | refine wOrV ?_ | refine wNotV ?_ | refine wTup ?_ | refine wLst ?_ | refine wLstF ?_ | refine wSl ?_ | refine wNoPart ?_ | refine wPart ?_ | refine wBM ?_ | refine wSub ?_ | refine wFor ?_ | refine wIterL ?_ | refine wRng1 ?_ | refine wZip ?_ | refine wLc ?_ | refine wLcF ?_ | refine wYes ?_ | refine wAddI ?_ | refine wIntT ?_ | refine wInt1 ?_ | refine wInt2 ?_ | refine wNext ?_)))
          refine wIx 2 (d := .d (.int b)) seqOf_tup rfl rfl ?_
          (repeat (with_reducible (first | refine wSeq ?_ | refine wAsg ?_ | refine wRet ?_ | refine wDrop ?_ | refine wName ?_ | (apply wVar; (case h => with_unfolding_all rfl)) | refine wC ?_ | refine wOp ?_ | refine wUn ?_ | refine wNil ?_ | refine wCons ?_ | refine wCB ?_ | refine wCall ?_ | refine wTest ?_ | refine wBool ?_ | refine wInt ?_ | refine wIfS ?_ | refine wIf ?_ | refine wAnd ?_ | refine wOr ?_ | refine wNot ?_ | refine wAndV ?_ | refine wOrV ?_ | refine wNotV ?_ | refine wTup ?_ | refine wLst ?_ | refine wLstF ?_ | refine wSl ?_ | refine wNoPart ?_ | refine wPart ?_ | refine wBM ?_ | refine wSub ?_ | refine wFor ?_ | refine wIterL ?_ | refine wRng1 ?_ | refine wZip ?_ | refine wLc ?_ | refine wLcF ?_ | refine wYes ?_ | refine wAddI ?_ | refine wIntT ?_ | refine wInt1 ?_ | refine wInt2 ?_ | refine wNext ?_)))
          refine wIx 1 (d := .d (.int a)) seqOf_tup rfl rfl ?_
          (repeat (with_reducible (first | refine wSeq ?_ | refine wAsg ?_ | refine wRet ?_ | refine wDrop ?_ | refine wName ?_ | (apply wVar; (case h => with_unfolding_all rfl)) | refine wC ?_ | refine wOp ?_ | refine wUn ?_ | refine wNil ?_ | refine wCons ?_ | refine wCB ?_ | refine wCall ?_ | refine wTest ?_ | refine wBool ?_ | refine wInt ?_ | refine wIfS ?_ | refine wIf ?_ | refine wAnd ?_ | refine wOr ?_ | refine wNot ?_ | refine wAndV ?_ | refine wOrV ?_ | refine wNotV ?_ | refine wTup ?_ | refine wLst ?_ | refine wLstF ?_ | refine wSl ?_ | refine wNoPart ?_ | refine wPart ?_ | refine wBM ?_ | refine wSub ?_ | refine wFor ?_ | refine wIterL ?_ | refine wRng1 ?_ | refine wZip ?_ | refine wLc ?_ | refine wLcF ?_ | refine wYes ?_ | refine wAddI ?_ | refine wIntT ?_ | refine wInt1 ?_ | refine wInt2 ?_ | refine wNext ?_)))
          refine ⟨lenOk (by simp), ?_⟩
          (repeat (with_reducible (first | refine wSeq ?_ | refine wAsg ?_ | refine wRet ?_ | refine wDrop ?_ | refine wName ?_ | (apply wVar; (case h => with_unfolding_all rfl)) | refine wC ?_ | refine wOp ?_ | refine wUn ?_ | refine wNil ?_ | refine wCons ?_ | refine wCB ?_ | refine wCall ?_ | refine wTest ?_ | refine wBool ?_ | refine wInt ?_ | refine wIfS ?_ | refine wIf ?_ | refine wAnd ?_ | refine wOr ?_ | refine wNot ?_ | refine wAndV ?_ | refine wOrV ?_ | refine wNotV ?_ | refine wTup ?_ | refine wLst ?_ | refine wLstF ?_ | refine wSl ?_ | refine wNoPart ?_ | refine wPart ?_ | refine wBM ?_ | refine wSub ?_ | refine wFor ?_ | refine wIterL ?_ | refine wRng1 ?_ | refine wZip ?_ | refine wLc ?_ | refine wLcF ?_ | refine wYes ?_ | refine wAddI ?_ | refine wIntT ?_ | refine wInt1 ?_ | refine wInt2 ?_ | refine wNext ?_)))
          refine wAppend rfl put_same (Nat.lt_of_lt_of_le (by simp : _ < 1000) (by decide)) ?_
          rw [put_put]
          exact done _ (by rw [ka]; rfl)
        · rw [if_neg (by simp only [decide_eq_true_eq]; exact km)]
          (repeat (with_reducible (first | refine wSeq ?_ | refine wAsg ?_ | refine wRet ?_ | refine wDrop ?_ | refine wName ?_ | (apply wVar; (case h => with_unfolding_all rfl)) | refine wC ?_ | refine wOp ?_ | refine wUn ?_ | refine wNil ?_ | refine wCons ?_ | refine wCB ?_ | refine wCall ?_ | refine wTest ?_ | refine wBool ?_ | refine wInt ?_ | refine wIfS ?_ | refine wIf ?_ | refine wAnd ?_ | refine wOr ?_ | refine wNot ?_ | refine wAndV ?_ | refine wOrV ?_ | refine wNotV ?_ | refine wTup ?_ | refine wLst ?_ | refine wLstF ?_ | refine wSl ?_ | refine wNoPart ?_ | refine wPart ?_ | refine wBM ?_ | refine wSub ?_ | refine wFor ?_ | refine wIterL ?_ | refine wRng1 ?_ | refine wZip ?_ | refine wLc ?_ | refine wLcF ?_ | refine wYes ?_ | refine wAddI ?_ | refine wIntT ?_ | refine wInt1 ?_ | refine wInt2 ?_ | refine wNext ?_)))
          exact done _ (by rw [ka]; rfl)
      · rintro ρ M3 ⟨ext3, keep, hb3, hrow3, hcell3, hpr3, rfl⟩
        have cells3 : CellsAt n cell M3 st.1 := fun i j hi hj => keep _ _ (hcell' i j hi hj)
        have pok := tPairs_ok aok
        have cc' : ∀ i j k l, i < n → j < n → k < n → l < n → cell i j ≠ cell' k l := fun i j k l hi hj hk hl => Ext.ne (hcell2 k l hk hl).1 (hcell' i j hi hj)
        have cell4 : ∀ {M4 : DM}, Out n cell M3 M4 → ∀ k l, k < n → l < n → M4 (cell' k l) = some (.dN (knD (st.1 k l))) := fun {M4} out k l hk hl => out _ _ (hcell3 k l hk hl) fun i j hi hj => (cc' i j k l hi hj hk hl).symm
        have i400 : i ≤ 400 := by omega
        (repeat (with_reducible (first | refine wSeq ?_ | refine wAsg ?_ | refine wRet ?_ | refine wDrop ?_ | refine wName ?_ | (apply wVar; (case h => with_unfolding_all rfl)) | refine wC ?_ | refine wOp ?_ | refine wUn ?_ | refine wNil ?_ | refine wCons ?_ | refine wCB ?_ | refine wCall ?_ | refine wTest ?_ | refine wBool ?_ | refine wInt ?_ | refine wIfS ?_ | refine wIf ?_ | refine wAnd ?_ | refine wOr ?_ | refine wNot ?_ | refine wAndV ?_ | refine wOrV ?_ | refine wNotV ?_ | refine wTup ?_ | refine wLst ?_ | refine wLstF ?_ | refine wSl ?_ | refine wNoPart ?_ | refine wPart ?_ | refine wBM ?_ | refine wSub ?_ | refine wFor ?_ | refine wIterL ?_ | refine wRng1 ?_ | refine wZip ?_ | refine wLc ?_ | refine wLcF ?_ | refine wYes ?_ | refine wAddI ?_ | refine wIntT ?_ | refine wInt1 ?_ | refine wInt2 ?_ | refine wNext ?_)))
        refine ⟨_, listOf_ref hpr3, ?_⟩
        refine forW_inv (fun j ρ M4 => ∃ (y7 y8 y9 y10 y11 : Option DV), Out n cell M3 M4 ∧ CellsAt n cell M4 (((tPairs act).take j).foldl (tellT n st.1) st.1) ∧ TOk n i (((tPairs act).take j).foldl (tellT n st.1) st.1) ∧
          ρ = [some (.d (.int n)), some (.d (actsD acts)), some (.ref p), some (.ref qa), some (.d (.tuple [.str kind, .int a, .int b])), some (.ref b0), some (.ref pr), y7, y8, y9, y10, y11]) ?_ ?_ ?_
        · exact ⟨_, _, _, _, _, Out.refl _, cells3, kn, rfl⟩
        · rintro j x ρ M4 hx ⟨y7, y8, y9, y10, y11, out, hc4, tok, rfl⟩
          refine ⟨listOf_ref (out.lst cells3 hpr3), fun K2 hK2 => ?_⟩
          obtain ⟨pq, hpq, rfl⟩ : ∃ pq, (tPairs act)[j]? = some pq ∧ x = pairV pq := by
            rw [List.getElem?_map] at hx
            cases e : (tPairs act)[j]? with
            | none => rw [e] at hx; simp at hx
            | some a => rw [e] at hx; exact ⟨a, rfl, (Option.some.inj hx).symm⟩
          obtain ⟨h1, h2⟩ := pok pq (List.mem_of_getElem? hpq)
          have stepJ : ((tPairs act).take (j + 1)).foldl (tellT n st.1) st.1 = tellT n st.1 (((tPairs act).take j).foldl (tellT n st.1) st.1) pq := foldl_take hpq
          rw [stepJ] at hK2
          generalize ((tPairs act).take j).foldl (tellT n st.1) st.1 = T at *
          refine wPair rfl ?_
          (repeat (with_reducible (first | refine wSeq ?_ | refine wAsg ?_ | refine wRet ?_ | refine wDrop ?_ | refine wName ?_ | (apply wVar; (case h => with_unfolding_all rfl)) | refine wC ?_ | refine wOp ?_ | refine wUn ?_ | refine wNil ?_ | refine wCons ?_ | refine wCB ?_ | refine wCall ?_ | refine wTest ?_ | refine wBool ?_ | refine wInt ?_ | refine wIfS ?_ | refine wIf ?_ | refine wAnd ?_ | refine wOr ?_ | refine wNot ?_ | refine wAndV ?_ | refine wOrV ?_ | refine wNotV ?_ | refine wTup ?_ | refine wLst ?_ | refine wLstF ?_ | refine wSl ?_ | refine wNoPart ?_ | refine wPart ?_ | refine wBM ?_ | refine wSub ?_ | refine wFor ?_ | refine wIterL ?_ | refine wRng1 ?_ | refine wZip ?_ | refine wLc ?_ | refine wLcF ?_ | refine wYes ?_ | refine wAddI ?_ | refine wIntT ?_ | refine wInt1 ?_ | refine wInt2 ?_ | refine wNext ?_)))
          refine ⟨_, rfl, by omega, by omega, ?_⟩
          rw [Int.toNat_natCast]
          refine forW_inv (fun k ρ M5 => ∃ (y9 : Option DV), Out n cell M3 M5 ∧ CellsAt n cell M5 (tellRow st.1 T pq k) ∧
            ρ = [some (.d (.int n)), some (.d (actsD acts)), some (.ref p), some (.ref qa), some (.d (.tuple [.str kind, .int a, .int b])), some (.ref b0), some (.ref pr), some (.d (.int pq.1)), some (.d (.int pq.2)), y9, y10, y11]) ?_ ?_ ?_
          · exact ⟨y9, out, hc4, rfl⟩
          · rintro k x ρ M5 hx ⟨y9, out5, hc5, rfl⟩
            refine ⟨trivial, fun K3 hK3 => ?_⟩
            obtain ⟨hk, rfl⟩ := rng_int hx
            have tk := TOk.tellRow kn tok h1 h2 k (by omega)
            with_reducible refine wName ?_
            exact upd_cell w (x := 8) (y := 9) (u := 7) (v := 9) rfl rfl rfl rfl rfl rfl h2 hk h1 hk (out5.lst cells3 (keep _ _ hp')) (out5.lst cells3 (keep _ _ (hrow' _ h2))) hc5 (out5.lst cells3 hb3) (out5.lst cells3 (hrow3 _ h1)) (cell4 out5 _ _ h1 hk)
              (cc' _ _ _ _ h2 hk h1 hk) (tk _ _ h2 hk) (kn _ _ h1 hk) hn2 i400 (hK3 _ _ ⟨_, out5.trans (Out.put h2 hk _), by rw [tellRow_succ]; exact hc5.put inj h2 hk _, rfl⟩)
          · rintro ρ M5 ⟨y9, out5, hc5, rfl⟩
            have hc5' : CellsAt n cell M5 (tellRow st.1 T pq n) := by
              have e : (rng 0 n).length = n := rl
              rw [e] at hc5
              exact hc5
            have tk := TOk.tellRow kn tok h1 h2 n (Nat.le_refl _)
            refine ⟨trivial, ?_⟩
            exact upd_cell w (x := 8) (y := 8) (u := 7) (v := 7) rfl rfl rfl rfl rfl rfl h2 h2 h1 h1 (out5.lst cells3 (keep _ _ hp')) (out5.lst cells3 (keep _ _ (hrow' _ h2))) hc5' (out5.lst cells3 hb3) (out5.lst cells3 (hrow3 _ h1)) (cell4 out5 _ _ h1 h1)
              (cc' _ _ _ _ h2 h2 h1 h1) (tk _ _ h2 h2) (kn _ _ h1 h1) hn2 i400 (hK2 _ _ ⟨_, _, _, _, _, out5.trans (Out.put h2 h2 _), hc5'.put inj h2 h2 _, TOk.tellT kn tok h1 h2, rfl⟩)
        · rintro ρ M4 ⟨y7, y8, y9, y10, y11, out, hc4, tok, rfl⟩
          have el : ((tPairs act).map pairV).length = (tPairs act).length := by simp
          rw [el, List.take_length] at hc4 tok
          generalize hT1 : (tPairs act).foldl (tellT n st.1) st.1 = T1 at *
          refine ⟨listOf_ref (out.lst cells3 hpr3), ?_⟩
          (repeat (with_reducible (first | refine wSeq ?_ | refine wAsg ?_ | refine wRet ?_ | refine wDrop ?_ | refine wName ?_ | (apply wVar; (case h => with_unfolding_all rfl)) | refine wC ?_ | refine wOp ?_ | refine wUn ?_ | refine wNil ?_ | refine wCons ?_ | refine wCB ?_ | refine wCall ?_ | refine wTest ?_ | refine wBool ?_ | refine wInt ?_ | refine wIfS ?_ | refine wIf ?_ | refine wAnd ?_ | refine wOr ?_ | refine wNot ?_ | refine wAndV ?_ | refine wOrV ?_ | refine wNotV ?_ | refine wTup ?_ | refine wLst ?_ | refine wLstF ?_ | refine wSl ?_ | refine wNoPart ?_ | refine wPart ?_ | refine wBM ?_ | refine wSub ?_ | refine wFor ?_ | refine wIterL ?_ | refine wRng1 ?_ | refine wZip ?_ | refine wLc ?_ | refine wLcF ?_ | refine wYes ?_ | refine wAddI ?_ | refine wIntT ?_ | refine wInt1 ?_ | refine wInt2 ?_ | refine wNext ?_)))
          refine ⟨_, listOf_ref (out.lst cells3 hpr3), ?_⟩
          refine forW_inv (fun j ρ M5 => ∃ (y7 y8 y9 y10 y11 : Option DV), Out n cell M3 M5 ∧ CellsAt n cell M5 (if kind = "meet" then ((tPairs act).take j).foldl (metT st.1) T1 else T1) ∧ TOk n i (if kind = "meet" then ((tPairs act).take j).foldl (metT st.1) T1 else T1) ∧
            ρ = [some (.d (.int n)), some (.d (actsD acts)), some (.ref p), some (.ref qa), some (.d (.tuple [.str kind, .int a, .int b])), some (.ref b0), some (.ref pr), y7, y8, y9, y10, y11]) ?_ ?_ ?_
          · exact ⟨_, _, _, _, _, out, by split <;> exact hc4, by split <;> exact tok, rfl⟩
          · rintro j x ρ M5 hx ⟨y7, y8, y9, y10, y11, out5, hc5, tok5, rfl⟩
            refine ⟨listOf_ref (out5.lst cells3 hpr3), fun K2 hK2 => ?_⟩
            obtain ⟨pq, hpq, rfl⟩ : ∃ pq, (tPairs act)[j]? = some pq ∧ x = pairV pq := by
              rw [List.getElem?_map] at hx
              cases e : (tPairs act)[j]? with
              | none => rw [e] at hx; simp at hx
              | some a => rw [e] at hx; exact ⟨a, rfl, (Option.some.inj hx).symm⟩
            obtain ⟨h1, h2⟩ := pok pq (List.mem_of_getElem? hpq)
            have stepJ : ((tPairs act).take (j + 1)).foldl (metT st.1) T1 = metT st.1 (((tPairs act).take j).foldl (metT st.1) T1) pq := foldl_take hpq
            rw [stepJ] at hK2
            refine wPair rfl ?_
            (repeat (with_reducible (first | refine wSeq ?_ | refine wAsg ?_ | refine wRet ?_ | refine wDrop ?_ | refine wName ?_ | (apply wVar; (case h => with_unfolding_all rfl)) | refine wC ?_ | refine wOp ?_ | refine wUn ?_ | refine wNil ?_ | refine wCons ?_ | refine wCB ?_ | refine wCall ?_ | refine wTest ?_ | refine wBool ?_ | refine wInt ?_ | refine wIfS ?_ | refine wIf ?_ | refine wAnd ?_ | refine wOr ?_ | refine wNot ?_ | refine wAndV ?_ | refine wOrV ?_ | refine wNotV ?_ | refine wTup ?_ | refine wLst ?_ | refine wLstF ?_ | refine wSl ?_ | refine wNoPart ?_ | refine wPart ?_ | refine wBM ?_ | refine wSub ?_ | refine wFor ?_ | refine wIterL ?_ | refine wRng1 ?_ | refine wZip ?_ | refine wLc ?_ | refine wLcF ?_ | refine wYes ?_ | refine wAddI ?_ | refine wIntT ?_ | refine wInt1 ?_ | refine wInt2 ?_ | refine wNext ?_)))
            refine wIx 0 (d := .d (.str kind)) seqOf_tup rfl rfl ?_
            (repeat (with_reducible (first | refine wSeq ?_ | refine wAsg ?_ | refine wRet ?_ | refine wDrop ?_ | refine wName ?_ | (apply wVar; (case h => with_unfolding_all rfl)) | refine wC ?_ | refine wOp ?_ | refine wUn ?_ | refine wNil ?_ | refine wCons ?_ | refine wCB ?_ | refine wCall ?_ | refine wTest ?_ | refine wBool ?_ | refine wInt ?_ | refine wIfS ?_ | refine wIf ?_ | refine wAnd ?_ | refine wOr ?_ | refine wNot ?_ | refine wAndV ?_ | refine wOrV ?_ | refine wNotV ?_ | refine wTup ?_ | refine wLst ?_ | refine wLstF ?_ | refine wSl ?_ | refine wNoPart ?_ | refine wPart ?_ | refine wBM ?_ | refine wSub ?_ | refine wFor ?_ | refine wIterL ?_ | refine wRng1 ?_ | refine wZip ?_ | refine wLc ?_ | refine wLcF ?_ | refine wYes ?_ | refine wAddI ?_ | refine wIntT ?_ | refine wInt1 ?_ | refine wInt2 ?_ | refine wNext ?_)))
            refine wEqS ?_
            (repeat (with_reducible (first | refine wSeq ?_ | refine wAsg ?_ | refine wRet ?_ | refine wDrop ?_ | refine wName ?_ | (apply wVar; (case h => with_unfolding_all rfl)) | refine wC ?_ | refine wOp ?_ | refine wUn ?_ | refine wNil ?_ | refine wCons ?_ | refine wCB ?_ | refine wCall ?_ | refine wTest ?_ | refine wBool ?_ | refine wInt ?_ | refine wIfS ?_ | refine wIf ?_ | refine wAnd ?_ | refine wOr ?_ | refine wNot ?_ | refine wAndV ?_ | refine wOrV ?_ | refine wNotV ?_ | refine wTup ?_ | refine wLst ?_ | refine wLstF ?_ | refine wSl ?_ | refine wNoPart ?_ | refine wPart ?_ | refine wBM ?_ | refine wSub ?_ | refine wFor ?_ | refine wIterL ?_ | refine wRng1 ?_ | refine wZip ?_ | refine wLc ?_ | refine wLcF ?_ | refine wYes ?_ | refine wAddI ?_ | refine wIntT ?_ | refine wInt1 ?_ | refine wInt2 ?_ | refine wNext ?_)))
            by_cases km : kind = "meet"
            · rw [if_pos (by simp [km])]
              simp only [if_pos km] at hc5 tok5 hK2
              exact upd_cell w (x := 8) (y := 7) (u := 8) (v := 8) rfl rfl rfl rfl rfl rfl h2 h1 h2 h2 (out5.lst cells3 (keep _ _ hp')) (out5.lst cells3 (keep _ _ (hrow' _ h2))) hc5 (out5.lst cells3 hb3) (out5.lst cells3 (hrow3 _ h2)) (cell4 out5 _ _ h2 h2)
                (cc' _ _ _ _ h2 h1 h2 h2) (tok5 _ _ h2 h1) (kn _ _ h2 h2) hn2 i400 (hK2 _ _ ⟨_, _, _, _, _, out5.trans (Out.put h2 h1 _), hc5.put inj h2 h1 _, TOk.metT kn tok5 h1 h2, rfl⟩)
            · rw [if_neg (by simp only [decide_eq_true_eq]; exact km)]
              simp only [if_neg km] at hc5 tok5 hK2
              exact hK2 _ _ ⟨_, _, _, _, _, out5, hc5, tok5, rfl⟩
          · rintro ρ M5 ⟨y7, y8, y9, y10, y11, out5, hc5, tok5, rfl⟩
            rw [el, List.take_length] at hc5
            refine ⟨listOf_ref (out5.lst cells3 hpr3), ?_⟩
            have hend : (if kind = "meet" then (tPairs act).foldl (metT st.1) T1 else T1) = (tabStep n st act).1 ∧ (tabStep n st act).2 = st.2 := by
              rcases hkind with ⟨km, ka⟩ | ⟨km, ka⟩
              · rw [if_pos km, ← hT1, ka]
                exact ⟨rfl, rfl⟩
              · rw [if_neg km, ← hT1, ka]
                exact ⟨rfl, rfl⟩
            rw [hend.1] at hc5
            refine hK _ _ ⟨_, _, _, _, _, _, _, _, fun x o h => ?_, out5.lst cells3 (keep _ _ hp'), fun l hl => out5.lst cells3 (keep _ _ (hrow' l hl)), hc5, by rw [hend.2]; exact out5.lst cells3 (keep _ _ hqa'), rfl⟩
            exact out5 _ _ (ext3 _ _ h) fun i j hi hj z => by rw [z, fresh i j hi hj] at h; cases h
  · rintro ρ M' ⟨x4, x5, x6, x7, x8, x9, x10, x11, ext, hp', hrow', hcell', hqa', rfl⟩
    refine ⟨rfl, ?_⟩
    (repeat (with_reducible (first | refine wSeq ?_ | refine wAsg ?_ | refine wRet ?_ | refine wDrop ?_ | refine wName ?_ | (apply wVar; (case h => with_unfolding_all rfl)) | refine wC ?_ | refine wOp ?_ | refine wUn ?_ | refine wNil ?_ | refine wCons ?_ | refine wCB ?_ | refine wCall ?_ | refine wTest ?_ | refine wBool ?_ | refine wInt ?_ | refine wIfS ?_ | refine wIf ?_ | refine wAnd ?_ | refine wOr ?_ | refine wNot ?_ | refine wAndV ?_ | refine wOrV ?_ | refine wNotV ?_ | refine wTup ?_ | refine wLst ?_ | refine wLstF ?_ | refine wSl ?_ | refine wNoPart ?_ | refine wPart ?_ | refine wBM ?_ | refine wSub ?_ | refine wFor ?_ | refine wIterL ?_ | refine wRng1 ?_ | refine wZip ?_ | refine wLc ?_ | refine wLcF ?_ | refine wYes ?_ | refine wAddI ?_ | refine wIntT ?_ | refine wInt1 ?_ | refine wInt2 ?_ | refine wNext ?_)))
    have e : ((List.map Act.data acts).map DV.d).length = acts.length := by simp
    rw [e, List.take_length] at hcell'
    exact q p M' ext ⟨row, cell, hp', fun i hi => ⟨hrow' i hi, fun j hj => hcell' i j hi hj⟩⟩
end DL

set_option Elab.async false
set_option linter.all false
set_option maxRecDepth 100000
set_option maxHeartbeats 4000000
namespace DL
open PySem L2 PyProof.Rows
/-! ### the sheets, number by number -/
def ev (F : Sheets) (i j c : Nat) : Nat := (at2 F i j).getD c 0
theorem vec_ext {n : Nat} {v u : Vec} (h1 : v.length = n) (h2 : u.length = n) (h : ∀ c, c < n → v.getD c 0 = u.getD c 0) : v = u := by
  refine List.ext_getElem (by omega) fun i a b => ?_
  have := h i (by omega)
  simpa [List.getD, a, b] using this
theorem joinV_get {n : Nat} {a b : Vec} (h1 : a.length = n) (h2 : b.length = n) {c : Nat} (hc : c < n) : (joinV a b).getD c 0 = max (a.getD c 0) (b.getD c 0) := by
  have ha : c < a.length := by omega
  have hb : c < b.length := by omega
  simp [joinV, List.getD, List.getElem?_zipWith, ha, hb]
theorem meetV_get {n : Nat} {a b : Vec} (h1 : a.length = n) (h2 : b.length = n) {c : Nat} (hc : c < n) : (meetV a b).getD c 0 = min (a.getD c 0) (b.getD c 0) := by
  have ha : c < a.length := by omega
  have hb : c < b.length := by omega
  simp [meetV, List.getD, List.getElem?_zipWith, ha, hb]
theorem at2_set {n : Nat} {F : Sheets} (h : Sq n F) {a : Nat} (ha : a < n) (s : Sheet) (i j : Nat) : at2 (F.set a s) i j = if i = a then s.getD j [] else at2 F i j := by
  unfold at2
  by_cases c : i = a
  · subst c
    rw [if_pos rfl, getD_set_eq (by rw [h.len]; exact ha)]
  · rw [if_neg c, getD_set_ne c]
theorem joinedS_get {n : Nat} {s t : Sheet} (h1 : s.length = n) (h2 : t.length = n) {j : Nat} (hj : j < n) : (joinedS s t).getD j [] = joinV (s.getD j []) (t.getD j []) := by
  have ha : j < s.length := by omega
  have hb : j < t.length := by omega
  simp [joinedS, List.getD, List.getElem?_zipWith, ha, hb]
theorem ev_make {n : Nat} {F : Sheets} (h : Sq n F) {a : Nat} (ha : a < n) {i j c : Nat} (hi : i < n) (hj : j < n) (hc : c < n) : ev (behindF F (.make a)) i j c = if i = a ∧ j = a ∧ c = a then ev F a a a + 1 else ev F i j c := by
  unfold ev
  show (at2 (F.set a ((F.getD a []).set a (raisedV (at2 F a a) a))) i j).getD c 0 = _
  rw [at2_set h ha]
  by_cases e1 : i = a
  · subst e1
    rw [if_pos rfl]
    by_cases e2 : j = i
    · subst e2
      rw [getD_set_eq (by rw [h.row_at ha]; exact ha)]
      unfold raisedV
      by_cases e3 : c = j
      · subst e3
        rw [getD_set_eq (by rw [(h.at2 ha ha).2]; exact ha), if_pos ⟨rfl, rfl, rfl⟩]
      · rw [getD_set_ne e3, if_neg fun z => e3 z.2.2]
    · rw [getD_set_ne e2, if_neg fun z => e2 z.2.1]
      rfl
  · rw [if_neg e1, if_neg fun z => e1 z.1]
def heard (F : Sheets) (a b c : Nat) : Nat := max (ev F a a c) (ev F b b c)
theorem ev_tell {n : Nat} {F : Sheets} (h : Sq n F) {a b : Nat} (ha : a < n) (hb : b < n) {i j c : Nat} (hi : i < n) (hj : j < n) (hc : c < n) : ev (behindF F (.tell a b)) i j c = if i = b then (if j = b then heard F a b c else max (ev F a j c) (ev F b j c)) else ev F i j c := by
  unfold ev heard
  show (at2 (F.set b ((joinedS (F.getD a []) (F.getD b [])).set b (joinV (at2 F a a) (at2 F b b)))) i j).getD c 0 = _
  rw [at2_set h hb]
  by_cases e1 : i = b
  · rw [if_pos e1, if_pos e1]
    have jl := joinedS_ok (h.rowOk ha) (h.rowOk hb)
    by_cases e2 : j = b
    · subst e2
      rw [if_pos rfl, getD_set_eq (by rw [jl.1]; exact hj), joinV_get (h.at2 ha ha).2 (h.at2 hb hb).2 hc]
      rfl
    · rw [if_neg e2, getD_set_ne e2, joinedS_get (h.row_at ha) (h.row_at hb) hj]
      exact joinV_get (h.at2 ha hj).2 (h.at2 hb hj).2 hc
  · rw [if_neg e1, if_neg e1]
theorem ev_meet {n : Nat} {F : Sheets} (h : Sq n F) {a b : Nat} (ha : a < n) (hb : b < n) {i j c : Nat} (hi : i < n) (hj : j < n) (hc : c < n) : ev (behindF F (.meet a b)) i j c = if i = a ∨ i = b then (if j = a ∨ j = b then heard F a b c else max (ev F a j c) (ev F b j c)) else ev F i j c := by
  have jl := joinedS_ok (h.rowOk ha) (h.rowOk hb)
  have hv : (joinV (at2 F a a) (at2 F b b)).length = n := by simp [joinV, (h.at2 ha ha).2, (h.at2 hb hb).2]
  have s1 := sheet_set b jl hv
  have s2 := sheet_set a s1 hv
  have row : ∀ j, j < n → ((((joinedS (F.getD a []) (F.getD b [])).set b (joinV (at2 F a a) (at2 F b b))).set a (joinV (at2 F a a) (at2 F b b))).getD j []).getD c 0 = if j = a ∨ j = b then heard F a b c else max (ev F a j c) (ev F b j c) := by
    intro j hj
    by_cases e1 : j = a
    · rw [if_pos (.inl e1), e1, getD_set_eq (by rw [s1.1]; exact ha), joinV_get (h.at2 ha ha).2 (h.at2 hb hb).2 hc]
      rfl
    · rw [getD_set_ne e1]
      by_cases e2 : j = b
      · rw [if_pos (.inr e2), e2, getD_set_eq (by rw [jl.1]; exact hb), joinV_get (h.at2 ha ha).2 (h.at2 hb hb).2 hc]
        rfl
      · rw [if_neg (by rintro (z | z); exact e1 z; exact e2 z), getD_set_ne e2, joinedS_get (h.row_at ha) (h.row_at hb) hj]
        exact joinV_get (h.at2 ha hj).2 (h.at2 hb hj).2 hc
  unfold ev
  show (at2 ((F.set a (((joinedS (F.getD a []) (F.getD b [])).set b (joinV (at2 F a a) (at2 F b b))).set a (joinV (at2 F a a) (at2 F b b)))).set b (((joinedS (F.getD a []) (F.getD b [])).set b (joinV (at2 F a a) (at2 F b b))).set a (joinV (at2 F a a) (at2 F b b)))) i j).getD c 0 = _
  rw [at2_set (h.set a s2) hb]
  by_cases e1 : i = b
  · rw [if_pos e1, if_pos (.inr e1), row j hj]
    rfl
  · rw [if_neg e1, at2_set h ha]
    by_cases e2 : i = a
    · rw [if_pos e2, if_pos (.inl e2), row j hj]
      rfl
    · rw [if_neg e2, if_neg (by rintro (z | z); exact e2 z; exact e1 z)]
/-! ### the tables hold the same, change by change -/
theorem tSet_mem {T : Tab} {a b i j : Nat} {s : Kn} {x : Nat × Nat} : x ∈ tSet T a b s i j ↔ if i = a ∧ j = b then x ∈ s else x ∈ T i j := by
  unfold tSet
  split <;> exact Iff.rfl
theorem tellRow_mem {B T : Tab} {p : Nat × Nat} {x : Nat × Nat} {i j : Nat} : ∀ k, x ∈ tellRow B T p k i j ↔ x ∈ T i j ∨ (i = p.2 ∧ j < k ∧ x ∈ B p.1 j)
  | 0 => by
    show x ∈ T i j ↔ _
    constructor
    · exact .inl
    · rintro (h | ⟨_, h, _⟩)
      · exact h
      · omega
  | k + 1 => by
    rw [tellRow_succ, tSet_mem]
    by_cases c : i = p.2 ∧ j = k
    · rw [if_pos c, mrg_mem, tellRow_mem k, c.1, c.2]
      constructor
      · rintro ((h | ⟨h1, h2, h3⟩) | h)
        · exact .inl h
        · omega
        · exact .inr ⟨rfl, by omega, h⟩
      · rintro (h | ⟨h1, h2, h3⟩)
        · exact .inl (.inl h)
        · exact .inr h3
    · rw [if_neg c, tellRow_mem k]
      constructor
      · rintro (h | ⟨h1, h2, h3⟩)
        · exact .inl h
        · exact .inr ⟨h1, by omega, h3⟩
      · rintro (h | ⟨h1, h2, h3⟩)
        · exact .inl h
        · exact .inr ⟨h1, by have : j ≠ k := fun z => c ⟨h1, z⟩; omega, h3⟩
theorem tellT_mem {n : Nat} {B T : Tab} {p : Nat × Nat} {x : Nat × Nat} {i j : Nat} (hj : j < n) : x ∈ tellT n B T p i j ↔ x ∈ T i j ∨ (i = p.2 ∧ (x ∈ B p.1 j ∨ (j = p.2 ∧ x ∈ B p.1 p.1))) := by
  unfold tellT
  rw [tSet_mem]
  by_cases c : i = p.2 ∧ j = p.2
  · rw [if_pos c, mrg_mem, tellRow_mem]
    obtain ⟨rfl, rfl⟩ := c
    constructor
    · rintro ((h | ⟨h1, h2, h3⟩) | h)
      · exact .inl h
      · exact .inr ⟨rfl, .inl h3⟩
      · exact .inr ⟨rfl, .inr ⟨rfl, h⟩⟩
    · rintro (h | ⟨h1, h3 | ⟨_, h⟩⟩)
      · exact .inl (.inl h)
      · exact .inl (.inr ⟨rfl, hj, h3⟩)
      · exact .inr h
  · rw [if_neg c, tellRow_mem]
    constructor
    · rintro (h | ⟨h1, h2, h3⟩)
      · exact .inl h
      · exact .inr ⟨h1, .inl h3⟩
    · rintro (h | ⟨h1, h3 | ⟨h4, h⟩⟩)
      · exact .inl h
      · exact .inr ⟨h1, hj, h3⟩
      · exact absurd ⟨h1, h4⟩ c
theorem metT_mem {B T : Tab} {p : Nat × Nat} {x : Nat × Nat} {i j : Nat} : x ∈ metT B T p i j ↔ x ∈ T i j ∨ (i = p.2 ∧ j = p.1 ∧ x ∈ B p.2 p.2) := by
  unfold metT
  rw [tSet_mem]
  by_cases c : i = p.2 ∧ j = p.1
  · rw [if_pos c, mrg_mem]
    obtain ⟨rfl, rfl⟩ := c
    constructor
    · rintro (h | h)
      · exact .inl h
      · exact .inr ⟨rfl, rfl, h⟩
    · rintro (h | ⟨_, _, h⟩)
      · exact .inl h
      · exact .inr h
  · rw [if_neg c]
    constructor
    · exact .inl
    · rintro (h | ⟨h1, h2, _⟩)
      · exact h
      · exact absurd ⟨h1, h2⟩ c
/-- s holds what is numbered up to e -/
def Upto (n : Nat) (s : Kn) (e : Nat → Nat) : Prop := ∀ c k, (c, k) ∈ s ↔ c < n ∧ 1 ≤ k ∧ k ≤ e c
structure MainInv (n : Nat) (F : Sheets) (st : Tab × List Nat) (rs : List Kn × List Nat) (ct : Nat → Nat) : Prop where
  sq : Sq n F
  tm : ∀ i j, i < n → j < n → Upto n (st.1 i j) (ev F i j)
  rm : ∀ i, i < n → Upto n (rs.1.getD i []) (ev F i i)
  le : ∀ i j c, i < n → j < n → c < n → ev F i j c ≤ ev F j j c
  top : ∀ i c, i < n → c < n → ev F i i c ≤ ev F c c c
  md1 : ∀ c, c < n → st.2.getD c 0 = ev F c c c
  md2 : ∀ c, c < n → rs.2.getD c 0 = ev F c c c
  ct : ∀ c, c < n → ev F c c c = ct c
def isMake (c : Nat) : Act → Bool
  | .make a => decide (a = c)
  | _ => false
theorem MainInv.start (n : Nat) : MainInv n (sheets0 n) (tab0 n) (List.replicate n [], List.replicate n 0) (fun _ => 0) := by
  have e0 : ∀ i j c, ev (sheets0 n) i j c = 0 := fun i j c => by
    unfold ev at2 sheets0
    by_cases hi : i < n
    · by_cases hj : j < n
      · by_cases hc : c < n
        · simp [List.getD, hi, hj, hc]
        · simp [List.getD, hi, hj, hc]
      · simp [List.getD, hi, hj]
    · simp [List.getD, hi]
  refine ⟨Sq.zero n, fun i j hi hj c k => ?_, fun i hi c k => ?_, fun i j c _ _ _ => ?_, fun i c _ _ => ?_, fun c hc => ?_, fun c hc => ?_, fun c hc => e0 c c c⟩
  · rw [e0]
    simp [tab0]
    omega
  · rw [e0]
    simp [List.getD, hi]
    omega
  · rw [e0, e0]; exact Nat.le_refl 0
  · rw [e0, e0]; exact Nat.le_refl 0
  · rw [e0]; simp [tab0, List.getD, hc]
  · rw [e0]; simp [List.getD, hc]
theorem Upto.congr {n : Nat} {s : Kn} {e e' : Nat → Nat} (h : Upto n s e) (h' : ∀ c, c < n → e c = e' c) : Upto n s e' := fun c k => by
  rw [h c k]
  constructor
  · rintro ⟨h1, h2, h3⟩
    exact ⟨h1, h2, by rw [← h' c h1]; exact h3⟩
  · rintro ⟨h1, h2, h3⟩
    exact ⟨h1, h2, by rw [h' c h1]; exact h3⟩
theorem Upto.ins {n : Nat} {s : Kn} {e : Nat → Nat} (h : Upto n s e) {a m : Nat} (ha : a < n) (hm : m = e a) : Upto n (ins s (a, m + 1)) (fun c => if c = a then e a + 1 else e c) := fun c k => by
  rw [ins_mem, h c k, Prod.mk.injEq]
  show _ ↔ c < n ∧ 1 ≤ k ∧ k ≤ (if c = a then e a + 1 else e c)
  by_cases z : c = a
  · rw [if_pos z]
    subst z
    omega
  · rw [if_neg z]
    omega
theorem Upto.mrg {n : Nat} {s t : Kn} {e e' : Nat → Nat} (h : Upto n s e) (h' : Upto n t e') : Upto n (mrg s t) (fun c => max (e c) (e' c)) := fun c k => by
  rw [mrg_mem, h c k, h' c k]
  show _ ↔ c < n ∧ 1 ≤ k ∧ k ≤ max (e c) (e' c)
  omega
theorem MainInv.step {n : Nat} {F : Sheets} {st : Tab × List Nat} {rs : List Kn × List Nat} {ct : Nat → Nat} {i0 : Nat} (h : MainInv n F st rs ct) (ri : RowsInv n i0 rs) (ti : TabInv n i0 st) {act : Act} (ok : act.ok n) :
    MainInv n (behindF F act) (tabStep n st act) (rowsStep rs act) (fun c => ct c + if isMake c act then 1 else 0) := by
  cases act with
  | make a =>
    have ha : a < n := ok
    have ev' := fun {i j c : Nat} => ev_make h.sq ha (i := i) (j := j) (c := c)
    refine ⟨h.sq.behind ok, fun i j hi hj => ?_, fun i hi => ?_, fun i j c hi hj hc => ?_, fun i c hi hc => ?_, fun c hc => ?_, fun c hc => ?_, fun c hc => ?_⟩
    · show Upto n (tSet st.1 a a (ins (st.1 a a) (a, st.2.getD a 0 + 1)) i j) _
      by_cases c : i = a ∧ j = a
      · rw [c.1, c.2]
        have : tSet st.1 a a (ins (st.1 a a) (a, st.2.getD a 0 + 1)) a a = ins (st.1 a a) (a, st.2.getD a 0 + 1) := by unfold tSet; rw [if_pos ⟨rfl, rfl⟩]
        rw [this]
        refine ((h.tm a a ha ha).ins ha (h.md1 a ha)).congr fun c hc => ?_
        rw [ev' ha ha hc]
        by_cases z : c = a
        · rw [if_pos z, if_pos ⟨rfl, rfl, z⟩]
        · rw [if_neg z, if_neg fun y => z y.2.2]
      · have : tSet st.1 a a (ins (st.1 a a) (a, st.2.getD a 0 + 1)) i j = st.1 i j := by unfold tSet; rw [if_neg c]
        rw [this]
        refine (h.tm i j hi hj).congr fun d hd => ?_
        rw [ev' hi hj hd, if_neg fun y => c ⟨y.1, y.2.1⟩]
    · show Upto n ((rs.1.set a (ins (rs.1.getD a []) (a, rs.2.getD a 0 + 1))).getD i []) _
      by_cases c : i = a
      · subst c
        rw [getD_set_eq (by rw [ri.l1]; exact hi)]
        refine ((h.rm i hi).ins hi (h.md2 i hi)).congr fun c hc => ?_
        rw [ev' hi hi hc]
        by_cases z : c = i
        · rw [if_pos z, if_pos ⟨rfl, rfl, z⟩]
        · rw [if_neg z, if_neg fun y => z y.2.2]
      · rw [getD_set_ne c]
        refine (h.rm i hi).congr fun d hd => ?_
        rw [ev' hi hi hd, if_neg fun y => c y.1]
    · rw [ev' hi hj hc, ev' hj hj hc]
      have := h.le i j c hi hj hc
      by_cases z : j = a ∧ c = a
      · obtain ⟨rfl, rfl⟩ := z
        simp only [true_and, and_true]
        split <;> simp <;> omega
      · rw [if_neg fun y => z y.2, if_neg fun y => z y.2]
        exact this
    · rw [ev' hi hi hc, ev' hc hc hc]
      have := h.top i c hi hc
      by_cases z : c = a
      · subst z
        simp only [and_self, and_true, if_true]
        split <;> omega
      · rw [if_neg fun y => z y.2.2, if_neg fun y => z y.2.2]
        exact this
    · show (st.2.set a (st.2.getD a 0 + 1)).getD c 0 = _
      rw [ev' hc hc hc]
      by_cases z : c = a
      · subst z
        rw [getD_set_eq (by rw [ti.l2]; exact hc), if_pos ⟨rfl, rfl, rfl⟩, h.md1 c hc]
      · rw [getD_set_ne z, if_neg fun y => z y.1, h.md1 c hc]
    · show (rs.2.set a (rs.2.getD a 0 + 1)).getD c 0 = _
      rw [ev' hc hc hc]
      by_cases z : c = a
      · subst z
        rw [getD_set_eq (by rw [ri.l2]; exact hc), if_pos ⟨rfl, rfl, rfl⟩, h.md2 c hc]
      · rw [getD_set_ne z, if_neg fun y => z y.1, h.md2 c hc]
    · rw [ev' hc hc hc]
      have := h.ct c hc
      by_cases z : a = c
      · subst z
        simp [isMake, this]
      · rw [if_neg fun y => z y.1.symm]
        simp [isMake, z, this]
  | tell a b =>
    obtain ⟨ha, hb, nab⟩ := ok
    have ev' := fun {i j c : Nat} => ev_tell h.sq ha hb (i := i) (j := j) (c := c)
    refine ⟨h.sq.behind ⟨ha, hb, nab⟩, fun i j hi hj => ?_, fun i hi => ?_, fun i j c hi hj hc => ?_, fun i c hi hc => ?_, fun c hc => ?_, fun c hc => ?_, fun c hc => ?_⟩
    · intro c k
      show (c, k) ∈ tellT n st.1 st.1 (a, b) i j ↔ _
      rw [tellT_mem hj, h.tm i j hi hj c k, h.tm a j ha hj c k, h.tm a a ha ha c k]
      by_cases hc : c < n
      · rw [ev' hi hj hc]
        have l1 := h.le a b c ha hb hc
        unfold heard
        by_cases e1 : i = b
        · subst e1
          by_cases e2 : j = i
          · subst e2
            simp only [if_true, true_and]
            omega
          · simp only [if_true, if_false, true_and, e2, false_and, or_false]
            omega
        · simp only [e1, if_false, false_and, or_false]
      · omega
    · show Upto n ((rs.1.set b (mrg (rs.1.getD b []) (rs.1.getD a []))).getD i []) _
      by_cases e : i = b
      · subst e
        rw [getD_set_eq (by rw [ri.l1]; exact hi)]
        refine ((h.rm i hi).mrg (h.rm a ha)).congr fun c hc => ?_
        rw [ev' hi hi hc, if_pos rfl, if_pos rfl]
        unfold heard
        omega
      · rw [getD_set_ne e]
        refine (h.rm i hi).congr fun c hc => ?_
        rw [ev' hi hi hc, if_neg e]
    · rw [ev' hi hj hc, ev' hj hj hc]
      have l1 := h.le i j c hi hj hc
      have l2 := h.le a j c ha hj hc
      have l3 := h.le b j c hb hj hc
      have l4 := h.le i b c hi hb hc
      unfold heard
      by_cases e1 : i = b
      · by_cases e2 : j = b
        · simp only [e1, e2, if_true]; omega
        · simp only [e1, e2, if_true, if_false]; omega
      · by_cases e2 : j = b
        · subst e2
          simp only [e1, if_true, if_false]; omega
        · simp only [e1, e2, if_false]; omega
    · rw [ev' hi hi hc, ev' hc hc hc]
      have l1 := h.top i c hi hc
      have l2 := h.top a c ha hc
      have l3 := h.top b c hb hc
      unfold heard
      by_cases e1 : i = b
      · by_cases e2 : c = b
        · subst e2
          simp only [e1, if_true]; omega
        · simp only [e1, e2, if_true, if_false]; omega
      · by_cases e2 : c = b
        · subst e2
          simp only [e1, if_true, if_false]; omega
        · simp only [e1, e2, if_false]; omega
    · show st.2.getD c 0 = _
      rw [ev' hc hc hc, h.md1 c hc]
      have l2 := h.top a c ha hc
      unfold heard
      by_cases e2 : c = b
      · subst e2
        simp only [if_true]; omega
      · simp only [e2, if_false]
    · show rs.2.getD c 0 = _
      rw [ev' hc hc hc, h.md2 c hc]
      have l2 := h.top a c ha hc
      unfold heard
      by_cases e2 : c = b
      · subst e2
        simp only [if_true]; omega
      · simp only [e2, if_false]
    · rw [ev' hc hc hc]
      have l2 := h.top a c ha hc
      have l3 := h.ct c hc
      unfold heard
      by_cases e2 : c = b
      · subst e2
        simp only [if_true, isMake]; simp; omega
      · simp only [e2, if_false, isMake]; simp; omega
  | meet a b =>
    obtain ⟨ha, hb, nab⟩ := ok
    have ev' := fun {i j c : Nat} => ev_meet h.sq ha hb (i := i) (j := j) (c := c)
    refine ⟨h.sq.behind (act := .meet a b) ⟨ha, hb, nab⟩, fun i j hi hj => ?_, fun i hi => ?_, fun i j c hi hj hc => ?_, fun i c hi hc => ?_, fun c hc => ?_, fun c hc => ?_, fun c hc => ?_⟩
    · intro c k
      show (c, k) ∈ metT st.1 (metT st.1 (tellT n st.1 (tellT n st.1 st.1 (a, b)) (b, a)) (a, b)) (b, a) i j ↔ _
      rw [metT_mem, metT_mem, tellT_mem hj, tellT_mem hj, h.tm i j hi hj c k, h.tm a j ha hj c k, h.tm a a ha ha c k, h.tm b j hb hj c k, h.tm b b hb hb c k]
      by_cases hc : c < n
      · rw [ev' hi hj hc]
        have l1 := h.le a b c ha hb hc
        have l2 := h.le b a c hb ha hc
        unfold heard
        by_cases e1 : i = a
        · subst e1
          by_cases e2 : j = i
          · subst e2
            simp only [if_true, true_or, true_and, nab, Ne.symm nab, false_and, or_false, if_pos]
            omega
          · by_cases e3 : j = b
            · subst e3
              simp only [if_true, true_or, or_true, true_and, e2, nab, false_and, or_false, false_or]
              omega
            · simp only [if_true, true_or, true_and, e2, e3, nab, false_and, or_false, false_or, if_false]
              omega
        · by_cases e4 : i = b
          · subst e4
            by_cases e2 : j = a
            · subst e2
              simp only [if_true, true_or, or_true, true_and, e1, Ne.symm nab, nab, false_and, or_false, false_or]
              omega
            · by_cases e3 : j = i
              · subst e3
                simp only [if_true, or_true, true_and, e1, e2, false_and, or_false, false_or]
                omega
              · simp only [if_true, or_true, true_and, e1, e2, e3, false_and, or_false, false_or, if_false]
                omega
          · simp only [e1, e4, false_and, or_false, if_false]
      · omega
    · show Upto n (((rs.1.set b (mrg (rs.1.getD b []) (rs.1.getD a []))).set a (mrg (rs.1.getD a []) (rs.1.getD b []))).getD i []) _
      by_cases e : i = a
      · subst e
        rw [getD_set_eq (by simp [ri.l1]; exact hi)]
        refine ((h.rm i hi).mrg (h.rm b hb)).congr fun c hc => ?_
        rw [ev' hi hi hc, if_pos (.inl rfl), if_pos (.inl rfl)]
        rfl
      · rw [getD_set_ne e]
        by_cases e2 : i = b
        · subst e2
          rw [getD_set_eq (by rw [ri.l1]; exact hi)]
          refine ((h.rm i hi).mrg (h.rm a ha)).congr fun c hc => ?_
          rw [ev' hi hi hc, if_pos (.inr rfl), if_pos (.inr rfl)]
          unfold heard
          omega
        · rw [getD_set_ne e2]
          refine (h.rm i hi).congr fun c hc => ?_
          rw [ev' hi hi hc, if_neg (by rintro (z | z); exact e z; exact e2 z)]
    · rw [ev' hi hj hc, ev' hj hj hc]
      have l1 := h.le i j c hi hj hc
      have l2 := h.le a j c ha hj hc
      have l3 := h.le b j c hb hj hc
      have l4 := h.le i b c hi hb hc
      have l5 := h.le i a c hi ha hc
      unfold heard
      by_cases e1 : i = a ∨ i = b
      · by_cases e2 : j = a ∨ j = b
        · simp only [e1, e2, if_true]; omega
        · simp only [e1, e2, if_true, if_false]; omega
      · by_cases e2 : j = a ∨ j = b
        · simp only [e1, e2, if_true, if_false]
          rcases e2 with e2 | e2
          · subst e2; omega
          · subst e2; omega
        · simp only [e1, e2, if_false]; omega
    · rw [ev' hi hi hc, ev' hc hc hc]
      have l1 := h.top i c hi hc
      have l2 := h.top a c ha hc
      have l3 := h.top b c hb hc
      unfold heard
      by_cases e1 : i = a ∨ i = b
      · by_cases e2 : c = a ∨ c = b
        · simp only [e1, e2, if_true]; omega
        · simp only [e1, e2, if_true, if_false]; omega
      · by_cases e2 : c = a ∨ c = b
        · simp only [e1, e2, if_true, if_false]
          rcases e2 with e2 | e2
          · subst e2; omega
          · subst e2; omega
        · simp only [e1, e2, if_false]; omega
    · show st.2.getD c 0 = _
      rw [ev' hc hc hc, h.md1 c hc]
      have l2 := h.top a c ha hc
      have l3 := h.top b c hb hc
      unfold heard
      by_cases e2 : c = a ∨ c = b
      · simp only [e2, if_true]
        rcases e2 with e2 | e2
        · subst e2; omega
        · subst e2; omega
      · simp only [e2, if_false]
    · show rs.2.getD c 0 = _
      rw [ev' hc hc hc, h.md2 c hc]
      have l2 := h.top a c ha hc
      have l3 := h.top b c hb hc
      unfold heard
      by_cases e2 : c = a ∨ c = b
      · simp only [e2, if_true]
        rcases e2 with e2 | e2
        · subst e2; omega
        · subst e2; omega
      · simp only [e2, if_false]
    · rw [ev' hc hc hc]
      have l2 := h.top a c ha hc
      have l3 := h.top b c hb hc
      have l4 := h.ct c hc
      unfold heard
      by_cases e2 : c = a ∨ c = b
      · simp only [e2, if_true, isMake]
        rcases e2 with e2 | e2
        · subst e2; simp; omega
        · subst e2; simp; omega
      · simp only [e2, if_false, isMake]; simp; omega
end DL

set_option Elab.async false
set_option linter.all false
set_option maxRecDepth 100000
set_option maxHeartbeats 4000000
namespace DL
open PySem L2 PyProof.Rows
theorem nodup_sub {α : Type} [BEq α] [LawfulBEq α] : ∀ (t s : List α), t.Nodup → (∀ x ∈ t, x ∈ s) → t.length ≤ s.length
  | [], s, _, _ => Nat.zero_le _
  | x :: t, s, nd, h => by
    obtain ⟨h1, h2⟩ := List.nodup_cons.mp nd
    have hx : x ∈ s := h x (by simp)
    have := nodup_sub t (s.erase x) h2 fun y hy => by
      have ne : y ≠ x := fun e => h1 (by rw [← e]; exact hy)
      exact (List.mem_erase_of_ne ne).mpr (h y (by simp [hy]))
    have l := List.length_erase_of_mem hx
    have : 0 < s.length := List.length_pos_of_mem hx
    simp only [List.length_cons]
    omega
theorem upto_cnt {n : Nat} {s : Kn} {e : Nat → Nat} (h : Upto n s e) (nd : s.Nodup) {c : Nat} (hc : c < n) : (s.countP fun x => decide (x.1 = c)) = e c := by
  rw [List.countP_eq_length_filter]
  have ndF : (s.filter fun x => decide (x.1 = c)).Nodup := List.Nodup.sublist List.filter_sublist nd
  have ndI : ((List.range (e c)).map fun k => (c, k + 1)).Nodup := by
    unfold List.Nodup
    rw [List.pairwise_map]
    refine List.Pairwise.imp ?_ (List.nodup_range (n := e c))
    intro a b ne z
    injection z with _ z
    omega
  have h1 := nodup_sub _ ((List.range (e c)).map fun k => (c, k + 1)) ndF fun x hx => by
    obtain ⟨hs, hd⟩ := List.mem_filter.mp hx
    have hd' : x.1 = c := by simpa using hd
    have := (h x.1 x.2).mp hs
    rw [hd'] at this
    exact List.mem_map.mpr ⟨x.2 - 1, List.mem_range.mpr (by omega), Prod.ext hd'.symm (by show x.2 - 1 + 1 = x.2; omega)⟩
  have h2 := nodup_sub _ (s.filter fun x => decide (x.1 = c)) ndI fun x hx => by
    obtain ⟨k, hk, rfl⟩ := List.mem_map.mp hx
    have := List.mem_range.mp hk
    exact List.mem_filter.mpr ⟨(h c (k + 1)).mpr ⟨hc, by omega, by omega⟩, by simp⟩
  simp only [List.length_map, List.length_range] at h1 h2
  omega
theorem cntK_eq {n : Nat} {s : Kn} {v : Vec} (h : Upto n s fun c => v.getD c 0) (nd : s.Nodup) (hv : v.length = n) : cntK s n = v := by
  refine vec_ext (n := n) (by simp [cntK]) hv fun c hc => ?_
  have := upto_cnt h nd hc
  simp only [cntK, List.getD, List.getElem?_map, List.getElem?_range hc, Option.map_some, Option.getD_some]
  simpa [List.getD] using this
/-! ### all acts -/
def nMake (acts : List Act) (c : Nat) : Nat := acts.countP (isMake c)
theorem main_fold {n : Nat} {acts : List Act} (ok : ∀ x ∈ acts, x.ok n) : ∀ i, i ≤ acts.length →
    MainInv n ((acts.take i).foldl behindF (sheets0 n)) ((acts.take i).foldl (tabStep n) (tab0 n)) ((acts.take i).foldl rowsStep (List.replicate n [], List.replicate n 0)) (nMake (acts.take i))
  | 0, _ => by
    have : nMake (acts.take 0) = fun _ => 0 := by funext c; simp [nMake]
    rw [this]
    exact MainInv.start n
  | i + 1, h => by
    have hi : acts[i]? = some acts[i] := List.getElem?_eq_getElem (by omega)
    have := (main_fold ok i (by omega)).step (RowsInv.fold ok i (by omega)) (TabInv.fold ok i (by omega)) (ok _ (List.mem_of_getElem? hi))
    rw [foldl_take hi, foldl_take hi, foldl_take hi]
    have e : nMake (acts.take (i + 1)) = fun c => nMake (acts.take i) c + if isMake c acts[i] then 1 else 0 := by
      funext c
      unfold nMake
      rw [List.take_add_one, hi, List.countP_append]
      simp [List.countP_cons]
    rw [e]
    exact this
theorem main_all {n : Nat} {acts : List Act} (ok : ∀ x ∈ acts, x.ok n) : MainInv n (sheetsF n acts) (acts.foldl (tabStep n) (tab0 n)) (acts.foldl rowsStep (List.replicate n [], List.replicate n 0)) (nMake acts) := by
  have := main_fold ok acts.length (Nat.le_refl _)
  rw [List.take_length] at this
  exact this
theorem tabF_cnt {n : Nat} {acts : List Act} (ok : ∀ x ∈ acts, x.ok n) {i j : Nat} (hi : i < n) (hj : j < n) : cntK (tabF n acts i j) n = at2 (sheetsF n acts) i j := by
  have m := main_all ok
  have t := TabInv.fold ok acts.length (Nat.le_refl _)
  rw [List.take_length] at t
  exact cntK_eq (m.tm i j hi hj) (t.kn i j hi hj).1 (m.sq.at2 hi hj).2
theorem rowsF_cnt {n : Nat} {acts : List Act} (ok : ∀ x ∈ acts, x.ok n) {i : Nat} (hi : i < n) : cntK ((rowsF n acts).getD i []) n = at2 (sheetsF n acts) i i := by
  have m := main_all ok
  have t := RowsInv.fold ok acts.length (Nat.le_refl _)
  rw [List.take_length] at t
  exact cntK_eq (m.rm i hi) (t.kn i hi).1 (m.sq.at2 hi hi).2
theorem tabF_len {n : Nat} {acts : List Act} (ok : ∀ x ∈ acts, x.ok n) (hn : n ≤ 12) (hl : acts.length ≤ 400) {i j : Nat} (hi : i < n) (hj : j < n) : (tabF n acts i j).length ≤ 10000 := by
  have t := TabInv.fold ok acts.length (Nat.le_refl _)
  rw [List.take_length] at t
  have := (t.kn i j hi hj).len hn hl
  unfold tabF
  omega
theorem rowsF_len {n : Nat} {acts : List Act} (ok : ∀ x ∈ acts, x.ok n) (hn : n ≤ 12) (hl : acts.length ≤ 400) {i : Nat} (hi : i < n) : ((rowsF n acts).getD i []).length ≤ 10000 := by
  have t := RowsInv.fold ok acts.length (Nat.le_refl _)
  rw [List.take_length] at t
  have := (t.kn i hi).len hn hl
  unfold rowsF
  omega
/-- no number is above the number of makes, which is at most the number of acts -/
theorem ev_le {n : Nat} {acts : List Act} (ok : ∀ x ∈ acts, x.ok n) {i j c : Nat} (hi : i < n) (hj : j < n) (hc : c < n) : ev (sheetsF n acts) i j c ≤ acts.length := by
  have m := main_all ok
  have h1 := m.le i j c hi hj hc
  have h2 := m.top j c hj hc
  have h3 := m.ct c hc
  have h4 : nMake acts c ≤ acts.length := List.countP_le_length
  omega
/-! ### the least of a sheet -/
theorem fold_meet {n : Nat} {c : Nat} (hc : c < n) : ∀ (vs : List Vec) (v : Vec), v.length = n → (∀ u ∈ vs, u.length = n) → (vs.foldl meetV v).length = n ∧ (vs.foldl meetV v).getD c 0 ≤ v.getD c 0 ∧ (∀ u ∈ vs, (vs.foldl meetV v).getD c 0 ≤ u.getD c 0) ∧
    ((vs.foldl meetV v).getD c 0 = v.getD c 0 ∨ ∃ u ∈ vs, (vs.foldl meetV v).getD c 0 = u.getD c 0)
  | [], v, hv, _ => ⟨hv, Nat.le_refl _, by simp, .inl rfl⟩
  | u :: vs, v, hv, hs => by
    have hu := hs u (by simp)
    have hm : (meetV v u).length = n := by simp [meetV, hv, hu]
    obtain ⟨h1, h2, h3, h4⟩ := fold_meet hc vs (meetV v u) hm fun w hw => hs w (by simp [hw])
    rw [meetV_get hv hu hc] at h2 h4
    refine ⟨h1, ?_, ?_, ?_⟩
    · show (vs.foldl meetV (meetV v u)).getD c 0 ≤ _
      omega
    · intro w hw
      show (vs.foldl meetV (meetV v u)).getD c 0 ≤ _
      rcases List.mem_cons.mp hw with e | e
      · rw [e]; omega
      · exact h3 w e
    · show (vs.foldl meetV (meetV v u)).getD c 0 = _ ∨ ∃ w ∈ u :: vs, (vs.foldl meetV (meetV v u)).getD c 0 = w.getD c 0
      rcases h4 with h4 | ⟨w, hw, h4⟩
      · by_cases z : v.getD c 0 ≤ u.getD c 0
        · exact .inl (by omega)
        · exact .inr ⟨u, by simp, by omega⟩
      · exact .inr ⟨w, by simp [hw], h4⟩
theorem leastS_get {n : Nat} {s : Sheet} (hs : s.length = n ∧ ∀ v ∈ s, v.length = n) (hn : 1 ≤ n) {c : Nat} (hc : c < n) : (leastS s).length = n ∧ (∀ v ∈ s, (leastS s).getD c 0 ≤ v.getD c 0) ∧ ∃ v ∈ s, (leastS s).getD c 0 = v.getD c 0 := by
  cases s with
  | nil => simp at hs; omega
  | cons v vs =>
    obtain ⟨h1, h2, h3, h4⟩ := fold_meet hc vs v (hs.2 v (by simp)) fun u hu => hs.2 u (by simp [hu])
    refine ⟨h1, ?_, ?_⟩
    · intro w hw
      rcases List.mem_cons.mp hw with e | e
      · rw [e]; exact h2
      · exact h3 w e
    · rcases h4 with h4 | ⟨u, hu, h4⟩
      · exact ⟨v, by simp, h4⟩
      · exact ⟨u, by simp [hu], h4⟩
/-! ### one hears from all and tells all, twice -/
structure BInv (n : Nat) (U : Nat → Nat) (F : Sheets) : Prop where
  sq : Sq n F
  bd : ∀ i j c, i < n → j < n → c < n → ev F i j c ≤ U c
  own : ∀ c, c < n → ev F c c c = U c
def Full (n : Nat) (U : Nat → Nat) (F : Sheets) (i j : Nat) : Prop := ∀ c, c < n → ev F i j c = U c
theorem BInv.tell {n : Nat} {U : Nat → Nat} {F : Sheets} (h : BInv n U F) {a b : Nat} (ha : a < n) (hb : b < n) (nab : a ≠ b) : BInv n U (behindF F (.tell a b)) ∧ (∀ i j c, i < n → j < n → c < n → ev F i j c ≤ ev (behindF F (.tell a b)) i j c) ∧
    (∀ c, c < n → ev F a a c ≤ ev (behindF F (.tell a b)) b b c) ∧ ∀ j c, j < n → j ≠ b → c < n → ev F a j c ≤ ev (behindF F (.tell a b)) b j c := by
  have ev' := fun {i j c : Nat} => ev_tell h.sq ha hb (i := i) (j := j) (c := c)
  have mono : ∀ i j c, i < n → j < n → c < n → ev F i j c ≤ ev (behindF F (.tell a b)) i j c := by
    intro i j c hi hj hc
    rw [ev' hi hj hc]
    unfold heard
    by_cases e1 : i = b
    · by_cases e2 : j = b
      · rw [if_pos e1, if_pos e2, e1, e2]; omega
      · rw [if_pos e1, if_neg e2, e1]; omega
    · rw [if_neg e1]; omega
  have bd : ∀ i j c, i < n → j < n → c < n → ev (behindF F (.tell a b)) i j c ≤ U c := by
    intro i j c hi hj hc
    rw [ev' hi hj hc]
    have l1 := h.bd a a c ha ha hc
    have l2 := h.bd b b c hb hb hc
    have l3 := h.bd a j c ha hj hc
    have l4 := h.bd b j c hb hj hc
    have l5 := h.bd i j c hi hj hc
    unfold heard
    split
    · split <;> omega
    · omega
  refine ⟨⟨h.sq.behind (act := .tell a b) ⟨ha, hb, nab⟩, bd, fun c hc => ?_⟩, mono, fun c hc => ?_, fun j c hj nj hc => ?_⟩
  · have h1 := mono c c c hc hc hc
    have h2 := bd c c c hc hc hc
    have h3 := h.own c hc
    omega
  · rw [ev' hb hb hc, if_pos rfl, if_pos rfl]
    unfold heard
    omega
  · rw [ev' hb hj hc, if_pos rfl, if_neg nj]
    omega
theorem fold_tells {n : Nat} {U : Nat → Nat} {P : Sheets → Prop} {G : Nat → Sheets → Prop} (f : Nat → Nat × Nat) (hf : ∀ x, 1 ≤ x → x < n → (f x).1 < n ∧ (f x).2 < n ∧ (f x).1 ≠ (f x).2)
    (pP : ∀ F a b, BInv n U F → a < n → b < n → a ≠ b → P F → P (behindF F (.tell a b))) (pG : ∀ x F a b, BInv n U F → a < n → b < n → a ≠ b → 1 ≤ x → x < n → G x F → G x (behindF F (.tell a b)))
    (est : ∀ x F, BInv n U F → P F → 1 ≤ x → x < n → G x (behindF F (.tell (f x).1 (f x).2))) :
    ∀ (xs : List Nat) (F : Sheets), (∀ x ∈ xs, 1 ≤ x ∧ x < n) → BInv n U F → P F → BInv n U ((xs.map fun x => Act.tell (f x).1 (f x).2).foldl behindF F) ∧ P ((xs.map fun x => Act.tell (f x).1 (f x).2).foldl behindF F) ∧
      (∀ x, 1 ≤ x → x < n → G x F → G x ((xs.map fun x => Act.tell (f x).1 (f x).2).foldl behindF F)) ∧ ∀ x ∈ xs, G x ((xs.map fun x => Act.tell (f x).1 (f x).2).foldl behindF F)
  | [], F, _, h, hp => ⟨h, hp, fun _ _ _ g => g, by simp⟩
  | x :: xs, F, hx, h, hp => by
    obtain ⟨x1, x2⟩ := hx x (by simp)
    obtain ⟨f1, f2, f3⟩ := hf x x1 x2
    obtain ⟨i1, i2, i3, i4⟩ := fold_tells f hf pP pG est xs (behindF F (.tell (f x).1 (f x).2)) (fun y hy => hx y (by simp [hy])) (h.tell f1 f2 f3).1 (pP F _ _ h f1 f2 f3 hp)
    refine ⟨i1, i2, fun y y1 y2 g => i3 y y1 y2 (pG y F _ _ h f1 f2 f3 y1 y2 g), fun y hy => ?_⟩
    rcases List.mem_cons.mp hy with e | e
    · rw [e]
      exact i3 x x1 x2 (est x F h hp x1 x2)
    · exact i4 y e
theorem Full.keep {n : Nat} {U : Nat → Nat} {F : Sheets} {i j a b : Nat} (g : Full n U F i j) (h : BInv n U F) (ha : a < n) (hb : b < n) (nab : a ≠ b) (hi : i < n) (hj : j < n) : Full n U (behindF F (.tell a b)) i j := fun c hc => by
  obtain ⟨h1, h2, _⟩ := h.tell ha hb nab
  have := h1.bd i j c hi hj hc
  have := h2 i j c hi hj hc
  have := g c hc
  omega
def oneTo (n : Nat) : List Nat := (List.range (n - 1)).map fun i => i + 1
def roundA (n : Nat) : List Act := (oneTo n).map (fun c => Act.tell c 0) ++ (oneTo n).map fun c => Act.tell 0 c
theorem oneTo_mem {n x : Nat} : x ∈ oneTo n ↔ 1 ≤ x ∧ x < n := by
  unfold oneTo
  rw [List.mem_map]
  constructor
  · rintro ⟨i, hi, rfl⟩
    have := List.mem_range.mp hi
    omega
  · rintro ⟨h1, h2⟩
    exact ⟨x - 1, List.mem_range.mpr (by omega), by omega⟩
theorem round_full {n : Nat} {U : Nat → Nat} {F : Sheets} (hn : 1 ≤ n) (h : BInv n U F) : BInv n U ((roundA n ++ roundA n).foldl behindF F) ∧ ∀ i j, i < n → j < n → Full n U ((roundA n ++ roundA n).foldl behindF F) i j := by
  have mem : ∀ x ∈ oneTo n, 1 ≤ x ∧ x < n := fun x hx => oneTo_mem.mp hx
  unfold roundA
  rw [List.foldl_append, List.foldl_append, List.foldl_append]
  -- all tell 0
  obtain ⟨b1, _, _, g1⟩ := fold_tells (U := U) (P := fun _ => True) (G := fun x F => ev F 0 0 x = U x) (fun x => (x, 0)) (fun x h1 h2 => ⟨h2, by omega, by show x ≠ 0; omega⟩) (fun _ _ _ _ _ _ _ _ => trivial)
    (fun x F a b hb ha' hb' nab x1 x2 g => by
      obtain ⟨i1, i2, _⟩ := hb.tell ha' hb' nab
      have := i1.bd 0 0 x (by omega) (by omega) x2
      have := i2 0 0 x (by omega) (by omega) x2
      have g' : ev F 0 0 x = U x := g
      show ev _ 0 0 x = U x
      omega)
    (fun x F hb _ x1 x2 => by
      obtain ⟨i1, _, i3, _⟩ := hb.tell (a := x) (b := 0) x2 (by omega) (by omega)
      have := i3 x x2
      have := i1.bd 0 0 x (by omega) (by omega) x2
      have := hb.own x x2
      show ev (behindF F (.tell x 0)) 0 0 x = U x
      omega) (oneTo n) F mem h trivial
  have f00 : Full n U (((oneTo n).map fun c => Act.tell c 0).foldl behindF F) 0 0 := fun c hc => by
    by_cases z : c = 0
    · subst z; exact b1.own 0 hc
    · exact g1 c (oneTo_mem.mpr ⟨by omega, hc⟩)
  generalize ((oneTo n).map fun c => Act.tell c 0).foldl behindF F = F1 at *
  -- 0 tells all
  obtain ⟨b2, p2, _, g2⟩ := fold_tells (U := U) (P := fun F => Full n U F 0 0) (G := fun x F => Full n U F x x) (fun x => (0, x)) (fun x h1 h2 => ⟨by show 0 < n; omega, h2, by show 0 ≠ x; omega⟩) (fun F a b hb ha' hb' nab g => g.keep hb ha' hb' nab (by omega) (by omega))
    (fun x F a b hb ha' hb' nab x1 x2 g => g.keep hb ha' hb' nab x2 x2)
    (fun x F hb g x1 x2 c hc => by
      obtain ⟨i1, _, i3, _⟩ := hb.tell (a := 0) (b := x) (by omega) x2 (by omega)
      have := i3 c hc
      have := i1.bd x x c x2 x2 hc
      have := g c hc
      show ev (behindF F (.tell 0 x)) x x c = U c
      omega) (oneTo n) F1 mem b1 f00
  have own2 : ∀ x, x < n → Full n U (((oneTo n).map fun c => Act.tell 0 c).foldl behindF F1) x x := fun x hx => by
    by_cases z : x = 0
    · subst z; exact p2
    · exact g2 x (oneTo_mem.mpr ⟨by omega, hx⟩)
  generalize ((oneTo n).map fun c => Act.tell 0 c).foldl behindF F1 = F2 at *
  -- all tell 0 again
  obtain ⟨b3, p3, _, g3⟩ := fold_tells (U := U) (P := fun F => ∀ x, x < n → Full n U F x x) (G := fun x F => Full n U F 0 x) (fun x => (x, 0)) (fun x h1 h2 => ⟨h2, by show 0 < n; omega, by show x ≠ 0; omega⟩) (fun F a b hb ha' hb' nab g x hx => (g x hx).keep hb ha' hb' nab hx hx)
    (fun x F a b hb ha' hb' nab x1 x2 g => g.keep hb ha' hb' nab (by omega) x2)
    (fun x F hb g x1 x2 c hc => by
      obtain ⟨i1, _, _, i4⟩ := hb.tell (a := x) (b := 0) x2 (by omega) (by omega)
      have := i4 x c x2 (by omega) hc
      have := i1.bd 0 x c (by omega) x2 hc
      have := g x x2 c hc
      show ev (behindF F (.tell x 0)) 0 x c = U c
      omega) (oneTo n) F2 mem b2 own2
  have zero3 : ∀ x, x < n → Full n U (((oneTo n).map fun c => Act.tell c 0).foldl behindF F2) 0 x := fun x hx => by
    by_cases z : x = 0
    · subst z; exact p3 0 hx
    · exact g3 x (oneTo_mem.mpr ⟨by omega, hx⟩)
  generalize ((oneTo n).map fun c => Act.tell c 0).foldl behindF F2 = F3 at *
  -- 0 tells all again
  obtain ⟨b4, p4, _, g4⟩ := fold_tells (U := U) (P := fun F => (∀ x, x < n → Full n U F x x) ∧ ∀ x, x < n → Full n U F 0 x) (G := fun x F => ∀ j, j < n → Full n U F x j) (fun x => (0, x)) (fun x h1 h2 => ⟨by show 0 < n; omega, h2, by show 0 ≠ x; omega⟩)
    (fun F a b hb ha' hb' nab g => ⟨fun x hx => (g.1 x hx).keep hb ha' hb' nab hx hx, fun x hx => (g.2 x hx).keep hb ha' hb' nab (by omega) hx⟩)
    (fun x F a b hb ha' hb' nab x1 x2 g j hj => (g j hj).keep hb ha' hb' nab x2 hj)
    (fun x F hb g x1 x2 j hj => by
      by_cases z : j = x
      · rw [z]
        exact (g.1 x x2).keep hb (by omega) x2 (by omega) x2 x2
      · intro c hc
        obtain ⟨i1, _, _, i4⟩ := hb.tell (a := 0) (b := x) (by omega) x2 (by omega)
        have := i4 j c hj z hc
        have := i1.bd x j c x2 hj hc
        have := g.2 j hj c hc
        show ev (behindF F (.tell 0 x)) x j c = U c
        omega) (oneTo n) F3 mem b3 ⟨p3, zero3⟩
  refine ⟨b4, fun i j hi hj => ?_⟩
  by_cases z : i = 0
  · subst z; exact p4.2 j hj
  · exact g4 i (oneTo_mem.mpr ⟨by omega, hi⟩) j hj
/-- behind that all are sure of all -/
theorem sure_round {n : Nat} {acts : List Act} (hn : 1 ≤ n) (ok : ∀ x ∈ acts, x.ok n) : sureF n (acts ++ roundA n ++ roundA n) = List.replicate n ((List.range n).map fun c => nMake acts c) := by
  have m := main_all ok
  have h0 : BInv n (nMake acts) (sheetsF n acts) := ⟨m.sq, fun i j c hi hj hc => by
    have := m.le i j c hi hj hc
    have := m.top j c hj hc
    have := m.ct c hc
    omega, fun c hc => m.ct c hc⟩
  obtain ⟨b, full⟩ := round_full hn h0
  have e : sheetsF n (acts ++ roundA n ++ roundA n) = (roundA n ++ roundA n).foldl behindF (sheetsF n acts) := by
    unfold sheetsF
    rw [List.append_assoc, List.foldl_append]
  unfold sureF
  rw [e]
  generalize (roundA n ++ roundA n).foldl behindF (sheetsF n acts) = F at *
  refine List.ext_getElem (by simp [b.sq.len]) fun i h1 h2 => ?_
  have hi : i < n := by simpa [b.sq.len] using h1
  rw [List.getElem_map, List.getElem_replicate]
  have hF : F[i]'(by rw [b.sq.len]; exact hi) = F.getD i [] := by simp [List.getD, b.sq.len, hi]
  rw [hF]
  have rok := b.sq.rowOk hi
  obtain ⟨l1, _⟩ := leastS_get rok hn (c := 0) (by omega)
  refine vec_ext (n := n) l1 (by simp) fun c hc => ?_
  obtain ⟨_, _, v, hv, hl⟩ := leastS_get rok hn hc
  obtain ⟨j, hj⟩ := List.getElem?_of_mem hv
  have hjn : j < n := by rw [← rok.1]; exact (List.getElem?_eq_some_iff.mp hj).1
  have : v = at2 F i j := by
    have := (b.sq.at2 hi hjn).1
    rw [this] at hj
    exact (Option.some.inj hj).symm
  rw [hl, this]
  have := full i j hi hjn c hc
  unfold ev at this
  rw [this]
  simp [List.getD, hc]
theorem roundA_ok {n : Nat} (hn : 1 ≤ n) : ∀ x ∈ roundA n, x.ok n := by
  intro x hx
  rcases List.mem_append.mp hx with h | h
  · obtain ⟨c, hc, rfl⟩ := List.mem_map.mp h
    have := oneTo_mem.mp hc
    exact ⟨by omega, by omega, by omega⟩
  · obtain ⟨c, hc, rfl⟩ := List.mem_map.mp h
    have := oneTo_mem.mp hc
    exact ⟨by omega, by omega, by omega⟩
end DL

set_option Elab.async false
set_option linter.all false
set_option maxRecDepth 100000
set_option maxHeartbeats 4000000
namespace DL
open PySem L2 PyProof.Rows
def sheetD (s : Sheet) : PyData := .list (s.map vecD)
def sheetsD (F : Sheets) : PyData := .list (F.map sheetD)
theorem okD_vec (v : Vec) (m : Nat) : okD (m + 1) (vecD v) := by
  intro x hx
  obtain ⟨n, _, rfl⟩ := List.mem_map.mp hx
  cases m <;> trivial
theorem okD_sheet (s : Sheet) (m : Nat) : okD (m + 2) (sheetD s) := by
  intro x hx
  obtain ⟨v, _, rfl⟩ := List.mem_map.mp hx
  exact okD_vec v m
theorem okD_sheets (F : Sheets) : okD 3 (sheetsD F) := by
  intro x hx
  obtain ⟨s, _, rfl⟩ := List.mem_map.mp hx
  exact okD_sheet s 0
theorem okD_act (a : Act) : okD 1 a.data := by
  cases a with
  | make c =>
    intro x hx
    simp only [List.mem_cons, List.not_mem_nil, or_false] at hx
    rcases hx with rfl | rfl
    · exact strOk_make
    · trivial
  | tell a b =>
    intro x hx
    simp only [List.mem_cons, List.not_mem_nil, or_false] at hx
    rcases hx with rfl | rfl | rfl
    · exact strOk_tell
    · trivial
    · trivial
  | meet a b =>
    intro x hx
    simp only [List.mem_cons, List.not_mem_nil, or_false] at hx
    rcases hx with rfl | rfl | rfl
    · exact strOk_meet
    · trivial
    · trivial
theorem okD_acts (acts : List Act) : okD 2 (actsD acts) := by
  intro x hx
  obtain ⟨a, _, rfl⟩ := List.mem_map.mp hx
  exact okD_act a
theorem allSome_some {α : Type} : ∀ xs : List α, allSome (xs.map some) = some xs
  | [] => rfl
  | x :: xs => by
    simp only [List.map_cons, allSome, allSome_some xs]
    rfl
theorem rd_lst {M : DM} {a : Addr} {xs : List DV} {ys : List PyData} {n : Nat} (h : M a = some (.lst xs)) (e : xs.map (rd n M) = ys.map some) : rd (n + 1) M (.ref a) = some (.list ys) := by
  simp only [rd, h]
  rw [e, allSome_some]
  rfl
theorem rd_data {M : DM} {a : Addr} {ys : List PyData} {n : Nat} (h : M a = some (.lst (ys.map DV.d))) : rd (n + 1) M (.ref a) = some (.list ys) := by
  refine rd_lst h ?_
  rw [List.map_map]
  refine List.map_congr_left fun x _ => ?_
  cases n <;> rfl
theorem rd_vecs {M : DM} {a : Addr} {s : Sheet} {n : Nat} (h : M a = some (.lst (s.map vecV))) : rd (n + 1) M (.ref a) = some (sheetD s) := by
  refine rd_data (ys := s.map vecD) ?_
  rw [h, List.map_map]
  rfl
theorem rd_rows {M : DM} {p : Addr} {refs : List Addr} {F : Sheets} (h : RowsAt M p refs F) : rd 3 M (.ref p) = some (sheetsD F) := by
  refine rd_lst h.top ?_
  rw [List.map_map, List.map_map]
  refine List.ext_getElem (by simp [h.len]) fun i h1 h2 => ?_
  have hi : i < refs.length := by simpa using h1
  have hr := h.row i _ (List.getElem?_eq_getElem hi)
  have := rd_vecs (n := 1) hr
  simp only [List.getElem_map, Function.comp]
  rw [this]
  have hF : F[i]'(by rw [← h.len]; exact hi) = F.getD i [] := by
    have : i < F.length := by rw [← h.len]; exact hi
    simp [List.getD, this]
  rw [hF]
theorem rd_acts {M : DM} {a : Addr} {acts : List Act} (h : M a = some (.lst (acts.map fun x => DV.d x.data))) : rd 3 M (.ref a) = some (actsD acts) := by
  refine rd_data (ys := acts.map Act.data) ?_
  rw [h, List.map_map]
  rfl
/-! ### what repr shows -/
theorem small_int : ∀ i, i < 1001 → ((PyData.shown (.int ((i : Nat) : Int))).length ≤ 13 ∧ i.log2 < 1920 ∧ PyData.weight (.int ((i : Nat) : Int)) ≤ 11) := by decide +kernel
def smallV (v : Vec) : Prop := v.length ≤ 12 ∧ ∀ x ∈ v, x ≤ 1000
theorem weightAll_le {b : Nat} : ∀ {xs : List PyData}, (∀ x ∈ xs, x.weight ≤ b) → PyData.weightAll xs ≤ xs.length * (b + 1)
  | [], _ => by simp [PyData.weightAll]
  | x :: xs, h => by
    have h1 := h x (by simp)
    have h2 := weightAll_le (b := b) (xs := xs) fun y hy => h y (by simp [hy])
    simp only [PyData.weightAll, List.length_cons, Nat.succ_mul]
    omega
theorem showableAll_of : ∀ {xs : List PyData}, (∀ x ∈ xs, x.showable = true) → PyData.showableAll xs = true
  | [], _ => by simp only [PyData.showableAll]
  | x :: xs, h => by
    simp only [PyData.showableAll, Bool.and_eq_true]
    exact ⟨h x (by simp), showableAll_of fun y hy => h y (by simp [hy])⟩
theorem intsShortAll_of {B : Nat} : ∀ {xs : List PyData}, (∀ x ∈ xs, x.intsShort B = true) → PyData.intsShortAll B xs = true
  | [], _ => by simp only [PyData.intsShortAll]
  | x :: xs, h => by
    simp only [PyData.intsShortAll, Bool.and_eq_true]
    exact ⟨h x (by simp), intsShortAll_of fun y hy => h y (by simp [hy])⟩
/-- short data: shown, no long ints, of weight b -/
structure Short (x : PyData) (b : Nat) : Prop where
  sh : x.showable = true
  is : x.intsShort 13 = true
  w : x.weight ≤ b
theorem Short.show {x : PyData} {b n : Nat} (h : Short x b) (ok : okD n x) (hn : n ≤ 64) (hb : b ≤ 2 ^ 20) : showD x := by
  obtain ⟨h1, h2⟩ := okD_lay n x ok
  have lay : x.layable0 = true := by
    unfold PyData.layable0
    have := h.w
    simp only [h1, Bool.true_and, Bool.and_eq_true, decide_eq_true_eq]
    omega
  refine ⟨h.sh, PyData.hasDict_of_canLay x h1, by omega, ?_⟩
  have := shown_le13 lay h.is
  have e : (15728653 : Nat) ≤ sizeLine := by decide
  omega
theorem short_int {i : Nat} (h : i ≤ 1000) : Short (.int i) 11 := by
  obtain ⟨h1, h2, h3⟩ := small_int i (by omega)
  exact ⟨by simp only [PyData.showable, Int.natAbs_natCast, decide_eq_true_eq]; exact h2, by simp only [PyData.intsShort, decide_eq_true_eq]; exact h1, h3⟩
theorem short_vec {v : Vec} (h : smallV v) : Short (vecD v) 144 := by
  have e : ∀ x ∈ v.map (fun n : Nat => PyData.int n), Short x 11 := fun x hx => by
    obtain ⟨i, hi, rfl⟩ := List.mem_map.mp hx
    exact short_int (h.2 i hi)
  refine ⟨by simp only [vecD, PyData.showable]; exact showableAll_of fun x hx => (e x hx).sh, by simp only [vecD, PyData.intsShort]; exact intsShortAll_of fun x hx => (e x hx).is, ?_⟩
  simp only [vecD, PyData.weight]
  have := weightAll_le (b := 11) fun x hx => (e x hx).w
  simp only [List.length_map] at this
  have := h.1
  omega
theorem short_sheet {s : Sheet} (hl : s.length ≤ 12) (h : ∀ v ∈ s, smallV v) : Short (sheetD s) 1740 := by
  have e : ∀ x ∈ s.map vecD, Short x 144 := fun x hx => by
    obtain ⟨i, hi, rfl⟩ := List.mem_map.mp hx
    exact short_vec (h i hi)
  refine ⟨by simp only [sheetD, PyData.showable]; exact showableAll_of fun x hx => (e x hx).sh, by simp only [sheetD, PyData.intsShort]; exact intsShortAll_of fun x hx => (e x hx).is, ?_⟩
  simp only [sheetD, PyData.weight]
  have := weightAll_le (b := 144) fun x hx => (e x hx).w
  simp only [List.length_map] at this
  omega
theorem short_sheets {F : Sheets} (hl : F.length ≤ 12) (h : ∀ s ∈ F, s.length ≤ 12 ∧ ∀ v ∈ s, smallV v) : Short (sheetsD F) 20892 := by
  have e : ∀ x ∈ F.map sheetD, Short x 1740 := fun x hx => by
    obtain ⟨i, hi, rfl⟩ := List.mem_map.mp hx
    exact short_sheet (h i hi).1 (h i hi).2
  refine ⟨by simp only [sheetsD, PyData.showable]; exact showableAll_of fun x hx => (e x hx).sh, by simp only [sheetsD, PyData.intsShort]; exact intsShortAll_of fun x hx => (e x hx).is, ?_⟩
  simp only [sheetsD, PyData.weight]
  have := weightAll_le (b := 1740) fun x hx => (e x hx).w
  simp only [List.length_map] at this
  omega
theorem mem_getD {v : Vec} {x : Nat} (h : x ∈ v) : ∃ c, c < v.length ∧ v.getD c 0 = x := by
  obtain ⟨c, hc⟩ := List.getElem?_of_mem h
  obtain ⟨h1, h2⟩ := List.getElem?_eq_some_iff.mp hc
  exact ⟨c, h1, by simp [List.getD, h1, h2]⟩
theorem sheets_small {n : Nat} {acts : List Act} (ok : ∀ x ∈ acts, x.ok n) (hn : n ≤ 12) (hl : acts.length ≤ 400) : ∀ s ∈ sheetsF n acts, s.length = n ∧ ∀ v ∈ s, v.length = n ∧ smallV v := by
  intro s hs
  have sq := sheetsF_sq ok
  obtain ⟨r1, r2⟩ := sq.row s hs
  refine ⟨r1, fun v hv => ⟨r2 v hv, by rw [r2 v hv]; exact hn, fun x hx => ?_⟩⟩
  obtain ⟨i, hi⟩ := List.getElem?_of_mem hs
  obtain ⟨j, hj⟩ := List.getElem?_of_mem hv
  obtain ⟨c, hc, rfl⟩ := mem_getD hx
  have hin : i < n := by rw [← sq.len]; exact (List.getElem?_eq_some_iff.mp hi).1
  have hjn : j < n := by rw [← r1]; exact (List.getElem?_eq_some_iff.mp hj).1
  have e1 : (sheetsF n acts).getD i [] = s := by simp [List.getD, hi]
  have e2 : at2 (sheetsF n acts) i j = v := by unfold at2; rw [e1]; simp [List.getD, hj]
  have := ev_le ok hin hjn (c := c) (by rw [← r2 v hv]; exact hc)
  unfold ev at this
  rw [e2] at this
  omega
theorem least_small {n : Nat} {acts : List Act} (ok : ∀ x ∈ acts, x.ok n) (hn1 : 1 ≤ n) (hn : n ≤ 12) (hl : acts.length ≤ 400) {s : Sheet} (hs : s ∈ sheetsF n acts) : (leastS s).length = n ∧ smallV (leastS s) := by
  obtain ⟨r1, r2⟩ := sheets_small ok hn hl s hs
  have rok : s.length = n ∧ ∀ v ∈ s, v.length = n := ⟨r1, fun v hv => (r2 v hv).1⟩
  obtain ⟨l, _⟩ := leastS_get rok hn1 (c := 0) (by omega)
  refine ⟨l, by omega, fun x hx => ?_⟩
  obtain ⟨c, hc, rfl⟩ := mem_getD hx
  obtain ⟨_, _, v, hv, e⟩ := leastS_get rok hn1 (c := c) (by omega)
  rw [e]
  have hcv : c < v.length := by rw [(r2 v hv).1]; omega
  refine (r2 v hv).2.2 _ ?_
  have : v[c]? = some (v.getD c 0) := getD_some hcv
  exact List.mem_of_getElem? this
end DL

set_option Elab.async false
set_option linter.all false
set_option maxRecDepth 100000
set_option maxHeartbeats 4000000
namespace DL
open PySem L2 PyProof.Rows
theorem dataL_map' {α : Type} (l : List α) (g : α → PyData) : dataL (l.map fun a => DV.d (g a)) = some (l.map g) := by
  have e : (l.map fun a => DV.d (g a)) = (l.map g).map DV.d := by rw [List.map_map]; rfl
  rw [e, dataL_map]
def lawEnv (x0 x1 : Option DV) (n : Nat) (x3 x4 x5 x6 x7 x8 x9 x10 x11 x12 x13 x14 x15 x16 x17 x18 x19 : Option DV) : DSt := [x0, x1, some (.d (.int n)), x3, x4, x5, x6, x7, x8, x9, x10, x11, x12, x13, x14, x15, x16, x17, x18, x19]
theorem least_wp {n : Nat} {s : Sheet} (rok : s.length = n ∧ ∀ v ∈ s, v.length = n) (hn1 : 1 ≤ n) (hn : n ≤ 12) {tl : TDE} {x0 x1 x3 x4 x5 x6 x7 x8 x9 x10 x11 x12 x13 x14 x15 x16 x17 x18 x19 : Option DV} {M : DM} {Q : DK}
    (ht : ∀ (k : Int) (Q : DK), Q (.d (sheetD s)) M → tl ((dwipe [x0, x1, some (.d (.int n)), x3, x4, x5, x6, x7, x8, x9, x10, x11, x12, x13, x14, x15, x16, x17, x18, x19] [18]).set 18 (some (.d (.int k)))) M Q) (q : Q (vecV (leastS s)) M) :
    dCB rTuple1 (dCons (dLcF (dRng1 (dCons (dVar 2) dNil)) (dgName 18) dYes (dCB (rMostD fun y m => m ≤ y) (dCons (dLcF (dIterL tl) (dgName 19) dYes (dOp rIxD (dVar 19) (dVar 18)) [19]) dNil)) [18]) dNil) [x0, x1, some (.d (.int n)), x3, x4, x5, x6, x7, x8, x9, x10, x11, x12, x13, x14, x15, x16, x17, x18, x19] M Q := by
  obtain ⟨ll, _⟩ := leastS_get rok hn1 (c := 0) (by omega)
  (repeat (with_reducible (first | refine wSeq ?_ | refine wAsg ?_ | refine wRet ?_ | refine wDrop ?_ | refine wName ?_ | (apply wVar; (case h => with_unfolding_all rfl)) | refine wC ?_ | refine wOp ?_ | refine wUn ?_ | refine wNil ?_ | refine wCons ?_ | refine wCB ?_ | refine wCall ?_ | refine wTest ?_ | refine wBool ?_ | refine wInt ?_ | refine wIfS ?_ | refine wIf ?_ | refine wAnd ?_ | refine wOr ?_ | refine wNot ?_ | refine wAndV ?_ | refine wOrV ?_ | refine wNotV ?_ | refine wTup ?_ | refine wLst ?_ | refine wLstF ?_ | refine wSl ?_ | refine wNoPart ?_ | refine wPart ?_ | refine wBM ?_ | refine wSub ?_ | refine wFor ?_ | refine wIterL ?_ | refine wRng1 ?_ | refine wZip ?_ | refine wLc ?_ | refine wLcF ?_ | refine wYes ?_ | refine wAddI ?_ | refine wIntT ?_ | refine wInt1 ?_ | refine wInt2 ?_ | refine wNext ?_)))
  refine ⟨_, rfl, by omega, by omega, ?_⟩
  rw [Int.toNat_natCast]
  refine lcW_map ((leastS s).map fun n : Nat => DV.d (.int n)) (by simp [rng, ll]) (lenOk (by simp [rng]; omega)) trivial ?_ ?_
  · intro i x y hx hy K k
    obtain ⟨hi, rfl⟩ := rng_int hx
    with_reducible refine wName ?_
    with_reducible refine wCB ?_
    with_reducible refine wCons ?_
    with_reducible refine wLcF ?_
    with_reducible refine wIterL ?_
    refine ht _ _ ?_
    refine ⟨_, rfl, ?_⟩
    refine lcW_map (s.map fun v => DV.d (.int (v.getD i 0 : Nat))) (by simp) (lenOk (by simp; omega)) rfl ?_ ?_
    · intro j u z hu hz K2 k2
      rw [List.getElem?_map, List.getElem?_map] at hu
      cases e : s[j]? with
      | none => rw [e] at hu; simp at hu
      | some v =>
        rw [e] at hu
        obtain rfl := Option.some.inj hu
        have vl := rok.2 v (List.mem_of_getElem? e)
        (repeat (with_reducible (first | refine wSeq ?_ | refine wAsg ?_ | refine wRet ?_ | refine wDrop ?_ | refine wName ?_ | (apply wVar; (case h => with_unfolding_all rfl)) | refine wC ?_ | refine wOp ?_ | refine wUn ?_ | refine wNil ?_ | refine wCons ?_ | refine wCB ?_ | refine wCall ?_ | refine wTest ?_ | refine wBool ?_ | refine wInt ?_ | refine wIfS ?_ | refine wIf ?_ | refine wAnd ?_ | refine wOr ?_ | refine wNot ?_ | refine wAndV ?_ | refine wOrV ?_ | refine wNotV ?_ | refine wTup ?_ | refine wLst ?_ | refine wLstF ?_ | refine wSl ?_ | refine wNoPart ?_ | refine wPart ?_ | refine wBM ?_ | refine wSub ?_ | refine wFor ?_ | refine wIterL ?_ | refine wRng1 ?_ | refine wZip ?_ | refine wLc ?_ | refine wLcF ?_ | refine wYes ?_ | refine wAddI ?_ | refine wIntT ?_ | refine wInt1 ?_ | refine wInt2 ?_ | refine wNext ?_)))
        refine wIx i (seq_vec (v := v)) (natV_get (by omega)) rfl ?_
        have : z = .d (.int (v.getD i 0 : Nat)) := by
          rw [List.getElem?_map, e] at hz
          exact (Option.some.inj hz).symm
        rw [← this]
        exact k2
    · refine ⟨_, dataL_map' s fun v => .int (v.getD i 0 : Nat), ?_⟩
      (repeat (with_reducible (first | refine wSeq ?_ | refine wAsg ?_ | refine wRet ?_ | refine wDrop ?_ | refine wName ?_ | (apply wVar; (case h => with_unfolding_all rfl)) | refine wC ?_ | refine wOp ?_ | refine wUn ?_ | refine wNil ?_ | refine wCons ?_ | refine wCB ?_ | refine wCall ?_ | refine wTest ?_ | refine wBool ?_ | refine wInt ?_ | refine wIfS ?_ | refine wIf ?_ | refine wAnd ?_ | refine wOr ?_ | refine wNot ?_ | refine wAndV ?_ | refine wOrV ?_ | refine wNotV ?_ | refine wTup ?_ | refine wLst ?_ | refine wLstF ?_ | refine wSl ?_ | refine wNoPart ?_ | refine wPart ?_ | refine wBM ?_ | refine wSub ?_ | refine wFor ?_ | refine wIterL ?_ | refine wRng1 ?_ | refine wZip ?_ | refine wLc ?_ | refine wLcF ?_ | refine wYes ?_ | refine wAddI ?_ | refine wIntT ?_ | refine wInt1 ?_ | refine wInt2 ?_ | refine wNext ?_)))
      refine ⟨_, s.map fun v => ((v.getD i 0 : Nat) : Int), rfl, ?_, by simp; omega, fun m hm hmin => ?_⟩
      · show some ((s.map fun v => PyData.int (v.getD i 0 : Nat)).map DV.d) = _
        rw [List.map_map, List.map_map]
        rfl
      · obtain ⟨_, h2, v, hv, h3⟩ := leastS_get rok hn1 hi
        obtain ⟨u, hu, rfl⟩ := List.mem_map.mp hm
        have a1 := h2 u hu
        have a2 := hmin _ (List.mem_map.mpr ⟨v, hv, rfl⟩)
        have e : ((u.getD i 0 : Nat) : Int) = (((leastS s).getD i 0 : Nat) : Int) := by omega
        rw [e]
        rw [natV_get (by omega)] at hy
        rw [Option.some.inj hy]
        exact k
  · exact ⟨_, data_vec _, wTupF q⟩
def diag (n : Nat) (F : Sheets) : Sheet := (List.range n).map fun i => at2 F i i
theorem diag_ok {n : Nat} {F : Sheets} (h : Sq n F) : (diag n F).length = n ∧ ∀ v ∈ diag n F, v.length = n := by
  refine ⟨by simp [diag], fun v hv => ?_⟩
  obtain ⟨i, hi, rfl⟩ := List.mem_map.mp hv
  have := List.mem_range.mp hi
  exact (h.at2 this this).2
theorem join_least {n : Nat} {acts : List Act} (ok : ∀ x ∈ acts, x.ok n) (hn1 : 1 ≤ n) {i : Nat} (hi : i < n) : joinV (leastS ((sheetsF n acts).getD i [])) (leastS (diag n (sheetsF n acts))) = leastS (diag n (sheetsF n acts)) := by
  have m := main_all ok
  have sq := sheetsF_sq ok
  have r1 := sq.rowOk hi
  have r2 := diag_ok sq
  obtain ⟨l1, _⟩ := leastS_get r1 hn1 (c := 0) (by omega)
  obtain ⟨l2, _⟩ := leastS_get r2 hn1 (c := 0) (by omega)
  refine vec_ext (n := n) (by rw [joinV, List.length_zipWith, l1, l2]; exact Nat.min_self n) l2 fun c hc => ?_
  rw [joinV_get l1 l2 hc]
  obtain ⟨_, a1, _⟩ := leastS_get r1 hn1 hc
  obtain ⟨_, _, v, hv, a2⟩ := leastS_get r2 hn1 hc
  obtain ⟨j, hj, rfl⟩ := List.mem_map.mp hv
  have hj' := List.mem_range.mp hj
  have := a1 (at2 (sheetsF n acts) i j) (List.mem_of_getElem? (sq.at2 hi hj').1)
  have := m.le i j c hi hj' hc
  unfold ev at this
  omega
/-- what stands when all is worked out -/
structure LawSt (n : Nat) (acts : List Act) (M : DM) (ph pt pc : Addr) (refs : List Addr) : Prop where
  hh : M ph = some (.lst (acts.map fun x => DV.d x.data))
  ra : RowsAt M pt refs (sheetsF n acts)
  hc : M pc = some (.lst ((sureF n acts).map vecV))
  nh : ph ∉ refs
  npc : ph ≠ pc
  cr : pc ∉ refs
  cp : pc ≠ pt
  ht : ph ≠ pt
def lastD (n : Nat) (F : Sheets) : PyData := sheetD (diag n F)
end DL

set_option Elab.async false
set_option linter.all false
set_option maxRecDepth 100000
set_option maxHeartbeats 4000000
namespace DL
open PySem L2 PyProof.Rows
theorem cnt_make (acts : List Act) (i : Nat) : ((acts.map Act.data).countP fun z => PyData.eqv z (.tuple [.str "make", .int (i : Nat)])) = nMake acts i := by
  rw [List.countP_map]
  unfold nMake
  refine List.countP_congr fun a _ => ?_
  show PyData.eqv a.data (Act.make i).data = true ↔ _
  rw [eqv_ok 1 1 _ _ (okD_act a) (okD_act (.make i))]
  cases a with
  | make c =>
    show PyData.tuple [.str "make", .int (c : Nat)] = PyData.tuple [.str "make", .int (i : Nat)] ↔ decide (c = i) = true
    rw [PyData.tuple.injEq, List.cons.injEq, List.cons.injEq, PyData.int.injEq, decide_eq_true_eq]
    simp
    omega
  | tell c d =>
    show PyData.tuple [.str "tell", .int (c : Nat), .int (d : Nat)] = PyData.tuple [.str "make", .int (i : Nat)] ↔ false = true
    simp
  | meet c d =>
    show PyData.tuple [.str "meet", .int (c : Nat), .int (d : Nat)] = PyData.tuple [.str "make", .int (i : Nat)] ↔ false = true
    simp
theorem rng2_int {n i : Nat} {x : DV} (h : (rng 1 (n - 1))[i]? = some x) : i < n - 1 ∧ x = .d (.int ((i + 1 : Nat) : Int)) := by
  have hi : i < n - 1 := by
    obtain ⟨h, _⟩ := List.getElem?_eq_some_iff.mp h
    simpa [rng] using h
  rw [rng_get hi] at h
  refine ⟨hi, ?_⟩
  rw [← Option.some.inj h]
  have : (1 : Int) + (i : Nat) = ((i + 1 : Nat) : Int) := by omega
  rw [this]
theorem wRng2 {ρ : DSt} {M : DM} {ta : TDA} {Q : List DV → (DM → Prop) → DM → Prop} (h : ta ρ M fun ds M1 => ∃ i j : Int, ds = [.d (.int i), .d (.int j)] ∧ (-(2 ^ 62) ≤ i ∧ i < 2 ^ 62 ∧ -(2 ^ 62) ≤ j ∧ j < 2 ^ 62) ∧ Q (rng i (j - i).toNat) (fun _ => True) M1) : dRng2 ta ρ M Q := h
theorem oneTo_get {n i : Nat} (h : i < n - 1) : (oneTo n)[i]? = some (i + 1) := by
  unfold oneTo
  rw [List.getElem?_map, List.getElem?_range h]
  rfl
theorem rd_law (K : PySem.W.Frag) : ∀ ds M Q, sp_law K ds M Q → w_law K { nx := fun _ M' => Q (.d .none) M', rt := Q } (dstart N_law ds) M := by
  rintro ds M Q ⟨x, ns, rfl, hx, q⟩
  unfold w_law
  (repeat (with_reducible (first | refine wSeq ?_ | refine wAsg ?_ | refine wRet ?_ | refine wDrop ?_ | refine wName ?_ | (apply wVar; (case h => with_unfolding_all rfl)) | refine wC ?_ | refine wOp ?_ | refine wUn ?_ | refine wNil ?_ | refine wCons ?_ | refine wCB ?_ | refine wCall ?_ | refine wTest ?_ | refine wBool ?_ | refine wInt ?_ | refine wIfS ?_ | refine wIf ?_ | refine wAnd ?_ | refine wOr ?_ | refine wNot ?_ | refine wAndV ?_ | refine wOrV ?_ | refine wNotV ?_ | refine wTup ?_ | refine wLst ?_ | refine wLstF ?_ | refine wSl ?_ | refine wNoPart ?_ | refine wPart ?_ | refine wBM ?_ | refine wSub ?_ | refine wFor ?_ | refine wIterL ?_ | refine wRng1 ?_ | refine wZip ?_ | refine wLc ?_ | refine wLcF ?_ | refine wYes ?_ | refine wAddI ?_ | refine wIntT ?_ | refine wInt1 ?_ | refine wInt2 ?_ | refine wNext ?_)))
  refine ⟨x, ns, rfl, hx, fun pd o hpd dk => ?_⟩
  (repeat (with_reducible (first | refine wSeq ?_ | refine wAsg ?_ | refine wRet ?_ | refine wDrop ?_ | refine wName ?_ | (apply wVar; (case h => with_unfolding_all rfl)) | refine wC ?_ | refine wOp ?_ | refine wUn ?_ | refine wNil ?_ | refine wCons ?_ | refine wCB ?_ | refine wCall ?_ | refine wTest ?_ | refine wBool ?_ | refine wInt ?_ | refine wIfS ?_ | refine wIf ?_ | refine wAnd ?_ | refine wOr ?_ | refine wNot ?_ | refine wAndV ?_ | refine wOrV ?_ | refine wNotV ?_ | refine wTup ?_ | refine wLst ?_ | refine wLstF ?_ | refine wSl ?_ | refine wNoPart ?_ | refine wPart ?_ | refine wBM ?_ | refine wSub ?_ | refine wFor ?_ | refine wIterL ?_ | refine wRng1 ?_ | refine wZip ?_ | refine wLc ?_ | refine wLcF ?_ | refine wYes ?_ | refine wAddI ?_ | refine wIntT ?_ | refine wInt1 ?_ | refine wInt2 ?_ | refine wNext ?_)))
  refine ⟨pd, 12, o, rfl, by decide, by decide, put_same, dk, fun v o1 hv dk1 => ?_⟩
  rw [put_put]
  (repeat (with_reducible (first | refine wSeq ?_ | refine wAsg ?_ | refine wRet ?_ | refine wDrop ?_ | refine wName ?_ | (apply wVar; (case h => with_unfolding_all rfl)) | refine wC ?_ | refine wOp ?_ | refine wUn ?_ | refine wNil ?_ | refine wCons ?_ | refine wCB ?_ | refine wCall ?_ | refine wTest ?_ | refine wBool ?_ | refine wInt ?_ | refine wIfS ?_ | refine wIf ?_ | refine wAnd ?_ | refine wOr ?_ | refine wNot ?_ | refine wAndV ?_ | refine wOrV ?_ | refine wNotV ?_ | refine wTup ?_ | refine wLst ?_ | refine wLstF ?_ | refine wSl ?_ | refine wNoPart ?_ | refine wPart ?_ | refine wBM ?_ | refine wSub ?_ | refine wFor ?_ | refine wIterL ?_ | refine wRng1 ?_ | refine wZip ?_ | refine wLc ?_ | refine wLcF ?_ | refine wYes ?_ | refine wAddI ?_ | refine wIntT ?_ | refine wInt1 ?_ | refine wInt2 ?_ | refine wNext ?_)))
  have hn : (1 + (v : Int)) = ((v + 1 : Nat) : Int) := by omega
  rw [hn]
  have hn1 : 1 ≤ v + 1 := by omega
  have hn2 : v + 1 ≤ 12 := by omega
  generalize v + 1 = n at *
  refine ⟨lenOk (by simp), _, rfl, ?_⟩
  (repeat (with_reducible (first | refine wSeq ?_ | refine wAsg ?_ | refine wRet ?_ | refine wDrop ?_ | refine wName ?_ | (apply wVar; (case h => with_unfolding_all rfl)) | refine wC ?_ | refine wOp ?_ | refine wUn ?_ | refine wNil ?_ | refine wCons ?_ | refine wCB ?_ | refine wCall ?_ | refine wTest ?_ | refine wBool ?_ | refine wInt ?_ | refine wIfS ?_ | refine wIf ?_ | refine wAnd ?_ | refine wOr ?_ | refine wNot ?_ | refine wAndV ?_ | refine wOrV ?_ | refine wNotV ?_ | refine wTup ?_ | refine wLst ?_ | refine wLstF ?_ | refine wSl ?_ | refine wNoPart ?_ | refine wPart ?_ | refine wBM ?_ | refine wSub ?_ | refine wFor ?_ | refine wIterL ?_ | refine wRng1 ?_ | refine wZip ?_ | refine wLc ?_ | refine wLcF ?_ | refine wYes ?_ | refine wAddI ?_ | refine wIntT ?_ | refine wInt1 ?_ | refine wInt2 ?_ | refine wNext ?_)))
  refine ⟨pd, 6, o1, rfl, by decide, by decide, put_same, dk1, fun six o2 hsix dk2 => ?_⟩
  rw [put_put]
  (repeat (with_reducible (first | refine wSeq ?_ | refine wAsg ?_ | refine wRet ?_ | refine wDrop ?_ | refine wName ?_ | (apply wVar; (case h => with_unfolding_all rfl)) | refine wC ?_ | refine wOp ?_ | refine wUn ?_ | refine wNil ?_ | refine wCons ?_ | refine wCB ?_ | refine wCall ?_ | refine wTest ?_ | refine wBool ?_ | refine wInt ?_ | refine wIfS ?_ | refine wIf ?_ | refine wAnd ?_ | refine wOr ?_ | refine wNot ?_ | refine wAndV ?_ | refine wOrV ?_ | refine wNotV ?_ | refine wTup ?_ | refine wLst ?_ | refine wLstF ?_ | refine wSl ?_ | refine wNoPart ?_ | refine wPart ?_ | refine wBM ?_ | refine wSub ?_ | refine wFor ?_ | refine wIterL ?_ | refine wRng1 ?_ | refine wZip ?_ | refine wLc ?_ | refine wLcF ?_ | refine wYes ?_ | refine wAddI ?_ | refine wIntT ?_ | refine wInt1 ?_ | refine wInt2 ?_ | refine wNext ?_)))
  have bound : ∃ b : Nat, ([PyData.int 41, .int 41, .int 41, .int 41, .int 41, .int 401].map DV.d)[six]? = some (.d (.int b)) ∧ 0 < b ∧ b ≤ 401 := by
    have : six < 6 := by omega
    rcases six with _ | _ | _ | _ | _ | _ | six
    · exact ⟨41, rfl, by decide, by decide⟩
    · exact ⟨41, rfl, by decide, by decide⟩
    · exact ⟨41, rfl, by decide, by decide⟩
    · exact ⟨41, rfl, by decide, by decide⟩
    · exact ⟨41, rfl, by decide, by decide⟩
    · exact ⟨401, rfl, by decide, by decide⟩
    · omega
  obtain ⟨b, hb, b0, b401⟩ := bound
  refine wIx six seqOf_list hb rfl ?_
  (repeat (with_reducible (first | refine wSeq ?_ | refine wAsg ?_ | refine wRet ?_ | refine wDrop ?_ | refine wName ?_ | (apply wVar; (case h => with_unfolding_all rfl)) | refine wC ?_ | refine wOp ?_ | refine wUn ?_ | refine wNil ?_ | refine wCons ?_ | refine wCB ?_ | refine wCall ?_ | refine wTest ?_ | refine wBool ?_ | refine wInt ?_ | refine wIfS ?_ | refine wIf ?_ | refine wAnd ?_ | refine wOr ?_ | refine wNot ?_ | refine wAndV ?_ | refine wOrV ?_ | refine wNotV ?_ | refine wTup ?_ | refine wLst ?_ | refine wLstF ?_ | refine wSl ?_ | refine wNoPart ?_ | refine wPart ?_ | refine wBM ?_ | refine wSub ?_ | refine wFor ?_ | refine wIterL ?_ | refine wRng1 ?_ | refine wZip ?_ | refine wLc ?_ | refine wLcF ?_ | refine wYes ?_ | refine wAddI ?_ | refine wIntT ?_ | refine wInt1 ?_ | refine wInt2 ?_ | refine wNext ?_)))
  refine ⟨pd, b, o2, rfl, by omega, by omega, put_same, dk2, fun c o3 hc3 dk3 => ?_⟩
  rw [put_put]
  (repeat (with_reducible (first | refine wSeq ?_ | refine wAsg ?_ | refine wRet ?_ | refine wDrop ?_ | refine wName ?_ | (apply wVar; (case h => with_unfolding_all rfl)) | refine wC ?_ | refine wOp ?_ | refine wUn ?_ | refine wNil ?_ | refine wCons ?_ | refine wCB ?_ | refine wCall ?_ | refine wTest ?_ | refine wBool ?_ | refine wInt ?_ | refine wIfS ?_ | refine wIf ?_ | refine wAnd ?_ | refine wOr ?_ | refine wNot ?_ | refine wAndV ?_ | refine wOrV ?_ | refine wNotV ?_ | refine wTup ?_ | refine wLst ?_ | refine wLstF ?_ | refine wSl ?_ | refine wNoPart ?_ | refine wPart ?_ | refine wBM ?_ | refine wSub ?_ | refine wFor ?_ | refine wIterL ?_ | refine wRng1 ?_ | refine wZip ?_ | refine wLc ?_ | refine wLcF ?_ | refine wYes ?_ | refine wAddI ?_ | refine wIntT ?_ | refine wInt1 ?_ | refine wInt2 ?_ | refine wNext ?_)))
  refine ⟨pd, n, c, o3, rfl, hn1, hn2, by omega, put_same, dk3, fun acts o4 hlen hok dk4 => ?_⟩
  rw [put_put]
  (repeat (with_reducible (first | refine wSeq ?_ | refine wAsg ?_ | refine wRet ?_ | refine wDrop ?_ | refine wName ?_ | (apply wVar; (case h => with_unfolding_all rfl)) | refine wC ?_ | refine wOp ?_ | refine wUn ?_ | refine wNil ?_ | refine wCons ?_ | refine wCB ?_ | refine wCall ?_ | refine wTest ?_ | refine wBool ?_ | refine wInt ?_ | refine wIfS ?_ | refine wIf ?_ | refine wAnd ?_ | refine wOr ?_ | refine wNot ?_ | refine wAndV ?_ | refine wOrV ?_ | refine wNotV ?_ | refine wTup ?_ | refine wLst ?_ | refine wLstF ?_ | refine wSl ?_ | refine wNoPart ?_ | refine wPart ?_ | refine wBM ?_ | refine wSub ?_ | refine wFor ?_ | refine wIterL ?_ | refine wRng1 ?_ | refine wZip ?_ | refine wLc ?_ | refine wLcF ?_ | refine wYes ?_ | refine wAddI ?_ | refine wIntT ?_ | refine wInt1 ?_ | refine wInt2 ?_ | refine wNext ?_)))
  have hlen4 : acts.length ≤ 400 := by omega
  refine wList1 (xs := acts.map fun x => DV.d x.data) ?_ fun ph hph => ?_
  · show some ((acts.map Act.data).map DV.d) = _
    rw [List.map_map]
    rfl
  (repeat (with_reducible (first | refine wSeq ?_ | refine wAsg ?_ | refine wRet ?_ | refine wDrop ?_ | refine wName ?_ | (apply wVar; (case h => with_unfolding_all rfl)) | refine wC ?_ | refine wOp ?_ | refine wUn ?_ | refine wNil ?_ | refine wCons ?_ | refine wCB ?_ | refine wCall ?_ | refine wTest ?_ | refine wBool ?_ | refine wInt ?_ | refine wIfS ?_ | refine wIf ?_ | refine wAnd ?_ | refine wOr ?_ | refine wNot ?_ | refine wAndV ?_ | refine wOrV ?_ | refine wNotV ?_ | refine wTup ?_ | refine wLst ?_ | refine wLstF ?_ | refine wSl ?_ | refine wNoPart ?_ | refine wPart ?_ | refine wBM ?_ | refine wSub ?_ | refine wFor ?_ | refine wIterL ?_ | refine wRng1 ?_ | refine wZip ?_ | refine wLc ?_ | refine wLcF ?_ | refine wYes ?_ | refine wAddI ?_ | refine wIntT ?_ | refine wInt1 ?_ | refine wInt2 ?_ | refine wNext ?_)))
  refine ⟨n, acts, rfl, hn1, hn2, hlen4, hok, fun pw M1 ext1 ⟨row, cell, hw, hrow⟩ => ?_⟩
  have sq := sheetsF_sq hok
  have hh1 : M1 ph = some (.lst (acts.map fun x => DV.d x.data)) := ext1 _ _ put_same
  generalize hM0 : put (put M pd o4) ph (.lst (acts.map fun x => DV.d x.data)) = M0 at *
  clear hM0
  (repeat (with_reducible (first | refine wSeq ?_ | refine wAsg ?_ | refine wRet ?_ | refine wDrop ?_ | refine wName ?_ | (apply wVar; (case h => with_unfolding_all rfl)) | refine wC ?_ | refine wOp ?_ | refine wUn ?_ | refine wNil ?_ | refine wCons ?_ | refine wCB ?_ | refine wCall ?_ | refine wTest ?_ | refine wBool ?_ | refine wInt ?_ | refine wIfS ?_ | refine wIf ?_ | refine wAnd ?_ | refine wOr ?_ | refine wNot ?_ | refine wAndV ?_ | refine wOrV ?_ | refine wNotV ?_ | refine wTup ?_ | refine wLst ?_ | refine wLstF ?_ | refine wSl ?_ | refine wNoPart ?_ | refine wPart ?_ | refine wBM ?_ | refine wSub ?_ | refine wFor ?_ | refine wIterL ?_ | refine wRng1 ?_ | refine wZip ?_ | refine wLc ?_ | refine wLcF ?_ | refine wYes ?_ | refine wAddI ?_ | refine wIntT ?_ | refine wInt1 ?_ | refine wInt2 ?_ | refine wNext ?_)))
  refine ⟨_, listOf_ref hw, ?_⟩
  refine lcW_map ((sheetsF n acts).map fun s => DV.d (sheetD s)) (by simp [sq.len]) (lenOk (by simp; omega)) (listOf_ref hw) ?_ ?_
  · intro i u y hu hy K2 k2
    have hi : i < n := by
      obtain ⟨h, _⟩ := List.getElem?_eq_some_iff.mp hu
      simpa using h
    rw [cells_get hi] at hu
    obtain rfl := Option.some.inj hu
    obtain ⟨hr, hcell⟩ := hrow i hi
    have rowE := sq.rowOk hi
    have hF : (sheetsF n acts)[i]? = some ((sheetsF n acts).getD i []) := getD_some (by rw [sq.len]; exact hi)
    (repeat (with_reducible (first | refine wSeq ?_ | refine wAsg ?_ | refine wRet ?_ | refine wDrop ?_ | refine wName ?_ | (apply wVar; (case h => with_unfolding_all rfl)) | refine wC ?_ | refine wOp ?_ | refine wUn ?_ | refine wNil ?_ | refine wCons ?_ | refine wCB ?_ | refine wCall ?_ | refine wTest ?_ | refine wBool ?_ | refine wInt ?_ | refine wIfS ?_ | refine wIf ?_ | refine wAnd ?_ | refine wOr ?_ | refine wNot ?_ | refine wAndV ?_ | refine wOrV ?_ | refine wNotV ?_ | refine wTup ?_ | refine wLst ?_ | refine wLstF ?_ | refine wSl ?_ | refine wNoPart ?_ | refine wPart ?_ | refine wBM ?_ | refine wSub ?_ | refine wFor ?_ | refine wIterL ?_ | refine wRng1 ?_ | refine wZip ?_ | refine wLc ?_ | refine wLcF ?_ | refine wYes ?_ | refine wAddI ?_ | refine wIntT ?_ | refine wInt1 ?_ | refine wInt2 ?_ | refine wNext ?_)))
    refine ⟨_, listOf_ref hr, ?_⟩
    refine lcW_map (((sheetsF n acts).getD i []).map vecV) (by rw [List.length_map, rowE.1]; simp) (lenOk (by simp; omega)) (listOf_ref hr) ?_ ?_
    · intro j u z hu hz K3 k3
      have hj : j < n := by
        obtain ⟨h, _⟩ := List.getElem?_eq_some_iff.mp hu
        simpa using h
      rw [cells_get hj] at hu
      obtain rfl := Option.some.inj hu
      (repeat (with_reducible (first | refine wSeq ?_ | refine wAsg ?_ | refine wRet ?_ | refine wDrop ?_ | refine wName ?_ | (apply wVar; (case h => with_unfolding_all rfl)) | refine wC ?_ | refine wOp ?_ | refine wUn ?_ | refine wNil ?_ | refine wCons ?_ | refine wCB ?_ | refine wCall ?_ | refine wTest ?_ | refine wBool ?_ | refine wInt ?_ | refine wIfS ?_ | refine wIf ?_ | refine wAnd ?_ | refine wOr ?_ | refine wNot ?_ | refine wAndV ?_ | refine wOrV ?_ | refine wNotV ?_ | refine wTup ?_ | refine wLst ?_ | refine wLstF ?_ | refine wSl ?_ | refine wNoPart ?_ | refine wPart ?_ | refine wBM ?_ | refine wSub ?_ | refine wFor ?_ | refine wIterL ?_ | refine wRng1 ?_ | refine wZip ?_ | refine wLc ?_ | refine wLcF ?_ | refine wYes ?_ | refine wAddI ?_ | refine wIntT ?_ | refine wInt1 ?_ | refine wInt2 ?_ | refine wNext ?_)))
      refine ⟨n, cell i j, tabF n acts i j, rfl, hn2, hcell j hj, tabF_len hok hn2 hlen4 hi hj, ?_⟩
      rw [tabF_cnt hok hi hj]
      rw [vec_at (sq.at2 hi hj).1] at hz
      rw [Option.some.inj hz]
      exact k3
    · refine ⟨((sheetsF n acts).getD i []).map vecD, dataL_map' _ vecD, ?_⟩
      rw [List.getElem?_map, hF] at hy
      have hy' : y = .d (sheetD ((sheetsF n acts).getD i [])) := (Option.some.inj hy).symm
      rw [hy'] at k2
      exact k2
  refine ⟨(sheetsF n acts).map sheetD, dataL_map' _ sheetD, ?_⟩
  (repeat (with_reducible (first | refine wSeq ?_ | refine wAsg ?_ | refine wRet ?_ | refine wDrop ?_ | refine wName ?_ | (apply wVar; (case h => with_unfolding_all rfl)) | refine wC ?_ | refine wOp ?_ | refine wUn ?_ | refine wNil ?_ | refine wCons ?_ | refine wCB ?_ | refine wCall ?_ | refine wTest ?_ | refine wBool ?_ | refine wInt ?_ | refine wIfS ?_ | refine wIf ?_ | refine wAnd ?_ | refine wOr ?_ | refine wNot ?_ | refine wAndV ?_ | refine wOrV ?_ | refine wNotV ?_ | refine wTup ?_ | refine wLst ?_ | refine wLstF ?_ | refine wSl ?_ | refine wNoPart ?_ | refine wPart ?_ | refine wBM ?_ | refine wSub ?_ | refine wFor ?_ | refine wIterL ?_ | refine wRng1 ?_ | refine wZip ?_ | refine wLc ?_ | refine wLcF ?_ | refine wYes ?_ | refine wAddI ?_ | refine wIntT ?_ | refine wInt1 ?_ | refine wInt2 ?_ | refine wNext ?_)))
  refine ⟨n, acts, rfl, hn1, hn2, hlen4, hok, fun pr pq more refs M2 ext2 hpr hpq hrl hkn => ?_⟩
  (repeat (with_reducible (first | refine wSeq ?_ | refine wAsg ?_ | refine wRet ?_ | refine wDrop ?_ | refine wName ?_ | (apply wVar; (case h => with_unfolding_all rfl)) | refine wC ?_ | refine wOp ?_ | refine wUn ?_ | refine wNil ?_ | refine wCons ?_ | refine wCB ?_ | refine wCall ?_ | refine wTest ?_ | refine wBool ?_ | refine wInt ?_ | refine wIfS ?_ | refine wIf ?_ | refine wAnd ?_ | refine wOr ?_ | refine wNot ?_ | refine wAndV ?_ | refine wOrV ?_ | refine wNotV ?_ | refine wTup ?_ | refine wLst ?_ | refine wLstF ?_ | refine wSl ?_ | refine wNoPart ?_ | refine wPart ?_ | refine wBM ?_ | refine wSub ?_ | refine wFor ?_ | refine wIterL ?_ | refine wRng1 ?_ | refine wZip ?_ | refine wLc ?_ | refine wLcF ?_ | refine wYes ?_ | refine wAddI ?_ | refine wIntT ?_ | refine wInt1 ?_ | refine wInt2 ?_ | refine wNext ?_)))
  refine wNeg ?_
  refine wIxLast (seqOf_ref hpr) ?_
  refine ⟨_, listOf_ref hpq, ?_⟩
  have dok := diag_ok sq
  refine lcW_map ((diag n (sheetsF n acts)).map vecV) (by simp [dok.1, hrl]) (lenOk (by simp; omega)) (listOf_ref hpq) ?_ ?_
  · intro i u y hu hy K2 k2
    have hi : i < n := by
      obtain ⟨h, _⟩ := List.getElem?_eq_some_iff.mp hu
      simpa [hrl] using h
    rw [List.getElem?_map] at hu
    have hr : refs[i]? = some (refs[i]'(by omega)) := List.getElem?_eq_getElem _
    rw [hr] at hu
    obtain rfl := Option.some.inj hu
    (repeat (with_reducible (first | refine wSeq ?_ | refine wAsg ?_ | refine wRet ?_ | refine wDrop ?_ | refine wName ?_ | (apply wVar; (case h => with_unfolding_all rfl)) | refine wC ?_ | refine wOp ?_ | refine wUn ?_ | refine wNil ?_ | refine wCons ?_ | refine wCB ?_ | refine wCall ?_ | refine wTest ?_ | refine wBool ?_ | refine wInt ?_ | refine wIfS ?_ | refine wIf ?_ | refine wAnd ?_ | refine wOr ?_ | refine wNot ?_ | refine wAndV ?_ | refine wOrV ?_ | refine wNotV ?_ | refine wTup ?_ | refine wLst ?_ | refine wLstF ?_ | refine wSl ?_ | refine wNoPart ?_ | refine wPart ?_ | refine wBM ?_ | refine wSub ?_ | refine wFor ?_ | refine wIterL ?_ | refine wRng1 ?_ | refine wZip ?_ | refine wLc ?_ | refine wLcF ?_ | refine wYes ?_ | refine wAddI ?_ | refine wIntT ?_ | refine wInt1 ?_ | refine wInt2 ?_ | refine wNext ?_)))
    refine ⟨n, _, (rowsF n acts).getD i [], rfl, hn2, hkn i _ hr, rowsF_len hok hn2 hlen4 hi, ?_⟩
    rw [rowsF_cnt hok hi]
    have hd : (diag n (sheetsF n acts))[i]? = some (at2 (sheetsF n acts) i i) := by
      rw [diag, List.getElem?_map, List.getElem?_range hi]
      rfl
    rw [vec_at hd] at hy
    rw [Option.some.inj hy]
    exact k2
  refine ⟨(diag n (sheetsF n acts)).map vecD, dataL_map' _ vecD, ?_⟩
  (repeat (with_reducible (first | refine wSeq ?_ | refine wAsg ?_ | refine wRet ?_ | refine wDrop ?_ | refine wName ?_ | (apply wVar; (case h => with_unfolding_all rfl)) | refine wC ?_ | refine wOp ?_ | refine wUn ?_ | refine wNil ?_ | refine wCons ?_ | refine wCB ?_ | refine wCall ?_ | refine wTest ?_ | refine wBool ?_ | refine wInt ?_ | refine wIfS ?_ | refine wIf ?_ | refine wAnd ?_ | refine wOr ?_ | refine wNot ?_ | refine wAndV ?_ | refine wOrV ?_ | refine wNotV ?_ | refine wTup ?_ | refine wLst ?_ | refine wLstF ?_ | refine wSl ?_ | refine wNoPart ?_ | refine wPart ?_ | refine wBM ?_ | refine wSub ?_ | refine wFor ?_ | refine wIterL ?_ | refine wRng1 ?_ | refine wZip ?_ | refine wLc ?_ | refine wLcF ?_ | refine wYes ?_ | refine wAddI ?_ | refine wIntT ?_ | refine wInt1 ?_ | refine wInt2 ?_ | refine wNext ?_)))
  have hh2 := ext2 _ _ hh1
  refine ⟨n, .ref ph, acts, rfl, hn1, hn2, listOf_ref hh2, hok, fun pt rt M3 ext3 hpt hrt ra => ?_⟩
  (repeat (with_reducible (first | refine wAsg ?_ | refine wRet ?_ | refine wDrop ?_ | refine wName ?_ | (apply wVar; (case h => with_unfolding_all rfl)) | refine wC ?_ | refine wOp ?_ | refine wUn ?_ | refine wNil ?_ | refine wCons ?_ | refine wCB ?_ | refine wCall ?_ | refine wTest ?_ | refine wBool ?_ | refine wInt ?_ | refine wIfS ?_ | refine wIf ?_ | refine wAnd ?_ | refine wOr ?_ | refine wNot ?_ | refine wAndV ?_ | refine wOrV ?_ | refine wNotV ?_ | refine wTup ?_ | refine wLst ?_ | refine wLstF ?_ | refine wSl ?_ | refine wNoPart ?_ | refine wPart ?_ | refine wBM ?_ | refine wSub ?_ | refine wFor ?_ | refine wIterL ?_ | refine wRng1 ?_ | refine wZip ?_ | refine wLc ?_ | refine wLcF ?_ | refine wYes ?_ | refine wAddI ?_ | refine wIntT ?_ | refine wInt1 ?_ | refine wInt2 ?_ | refine wNext ?_)))
  have hh3 := ext3 _ _ hh2
  with_reducible refine wMid (fun ρ M' => ∃ (pc : Addr) (x17 x18 x19 : Option DV), LawSt n acts M' ph pt pc rt ∧ ρ = [some x, some (.ref pd), some (.d (.int n)), some (.d (actsD acts)), some (.ref ph), some (.ref pw), some (.d (sheetsD (sheetsF n acts))), some (.d (lastD n (sheetsF n acts))), some (.ref pt), some (.ref pc), none, none, none, none, none, none, none, x17, x18, x19]) ?_ ?_
  · intro K1 hK1
    (repeat (with_reducible (first | refine wSeq ?_ | refine wAsg ?_ | refine wRet ?_ | refine wDrop ?_ | refine wName ?_ | (apply wVar; (case h => with_unfolding_all rfl)) | refine wC ?_ | refine wOp ?_ | refine wUn ?_ | refine wNil ?_ | refine wCons ?_ | refine wCB ?_ | refine wCall ?_ | refine wTest ?_ | refine wBool ?_ | refine wInt ?_ | refine wIfS ?_ | refine wIf ?_ | refine wAnd ?_ | refine wOr ?_ | refine wNot ?_ | refine wAndV ?_ | refine wOrV ?_ | refine wNotV ?_ | refine wTup ?_ | refine wLst ?_ | refine wLstF ?_ | refine wSl ?_ | refine wNoPart ?_ | refine wPart ?_ | refine wBM ?_ | refine wSub ?_ | refine wFor ?_ | refine wIterL ?_ | refine wRng1 ?_ | refine wZip ?_ | refine wLc ?_ | refine wLcF ?_ | refine wYes ?_ | refine wAddI ?_ | refine wIntT ?_ | refine wInt1 ?_ | refine wInt2 ?_ | refine wNext ?_)))
    refine ⟨n, .ref ph, acts, rfl, hn1, hn2, listOf_ref hh3, hok, fun pc M4 ext4 hpc hc => ?_⟩
    (repeat (with_reducible (first | refine wSeq ?_ | refine wAsg ?_ | refine wRet ?_ | refine wDrop ?_ | refine wName ?_ | (apply wVar; (case h => with_unfolding_all rfl)) | refine wC ?_ | refine wOp ?_ | refine wUn ?_ | refine wNil ?_ | refine wCons ?_ | refine wCB ?_ | refine wCall ?_ | refine wTest ?_ | refine wBool ?_ | refine wInt ?_ | refine wIfS ?_ | refine wIf ?_ | refine wAnd ?_ | refine wOr ?_ | refine wNot ?_ | refine wAndV ?_ | refine wOrV ?_ | refine wNotV ?_ | refine wTup ?_ | refine wLst ?_ | refine wLstF ?_ | refine wSl ?_ | refine wNoPart ?_ | refine wPart ?_ | refine wBM ?_ | refine wSub ?_ | refine wFor ?_ | refine wIterL ?_ | refine wRng1 ?_ | refine wZip ?_ | refine wLc ?_ | refine wLcF ?_ | refine wYes ?_ | refine wAddI ?_ | refine wIntT ?_ | refine wInt1 ?_ | refine wInt2 ?_ | refine wNext ?_)))
    refine hK1 _ _ ⟨pc, _, _, _, ⟨ext4 _ _ hh3, ⟨ext4 _ _ ra.top, ra.len, ra.nd, fun i r hr => ext4 _ _ (ra.row i r hr), ra.out⟩, hc, fun h => ?_, Ext.ne hpc hh3, fun h => ?_, (Ext.ne hpc ra.top).symm, Ext.ne hpt hh2⟩, rfl⟩
    · rw [hrt ph h] at hh2
      cases hh2
    · obtain ⟨i, hi⟩ := List.getElem?_of_mem h
      rw [ra.row i _ hi] at hpc
      cases hpc
  · rintro ρ M4 ⟨pc, x17, x18, x19, st, rfl⟩
    have small := sheets_small hok hn2 hlen4
    have showF : showD (sheetsD (sheetsF n acts)) := (short_sheets (by rw [sq.len]; exact hn2) fun s hs => ⟨by rw [(small s hs).1]; exact hn2, fun v hv => ((small s hs).2 v hv).2⟩).show (okD_sheets _) (by decide) (by decide)
    have dok := diag_ok sq
    have sl : (sureF n acts).length = n := by simp [sureF, sq.len]
    (repeat (with_reducible (first | refine wAsg ?_ | refine wRet ?_ | refine wDrop ?_ | refine wName ?_ | (apply wVar; (case h => with_unfolding_all rfl)) | refine wC ?_ | refine wOp ?_ | refine wUn ?_ | refine wNil ?_ | refine wCons ?_ | refine wCB ?_ | refine wCall ?_ | refine wTest ?_ | refine wBool ?_ | refine wInt ?_ | refine wIfS ?_ | refine wIf ?_ | refine wAnd ?_ | refine wOr ?_ | refine wNot ?_ | refine wAndV ?_ | refine wOrV ?_ | refine wNotV ?_ | refine wTup ?_ | refine wLst ?_ | refine wLstF ?_ | refine wSl ?_ | refine wNoPart ?_ | refine wPart ?_ | refine wBM ?_ | refine wSub ?_ | refine wFor ?_ | refine wIterL ?_ | refine wRng1 ?_ | refine wZip ?_ | refine wLc ?_ | refine wLcF ?_ | refine wYes ?_ | refine wAddI ?_ | refine wIntT ?_ | refine wInt1 ?_ | refine wInt2 ?_ | refine wNext ?_)))
    -- what the program tells is what is due
    with_reducible refine wSeq ?_
    (repeat (with_reducible (first | refine wSeq ?_ | refine wAsg ?_ | refine wRet ?_ | refine wDrop ?_ | refine wName ?_ | (apply wVar; (case h => with_unfolding_all rfl)) | refine wC ?_ | refine wOp ?_ | refine wUn ?_ | refine wNil ?_ | refine wCons ?_ | refine wCB ?_ | refine wCall ?_ | refine wTest ?_ | refine wBool ?_ | refine wInt ?_ | refine wIfS ?_ | refine wIf ?_ | refine wAnd ?_ | refine wOr ?_ | refine wNot ?_ | refine wAndV ?_ | refine wOrV ?_ | refine wNotV ?_ | refine wTup ?_ | refine wLst ?_ | refine wLstF ?_ | refine wSl ?_ | refine wNoPart ?_ | refine wPart ?_ | refine wBM ?_ | refine wSub ?_ | refine wFor ?_ | refine wIterL ?_ | refine wRng1 ?_ | refine wZip ?_ | refine wLc ?_ | refine wLcF ?_ | refine wYes ?_ | refine wAddI ?_ | refine wIntT ?_ | refine wInt1 ?_ | refine wInt2 ?_ | refine wNext ?_)))
    refine ⟨.ref pt, _, sheetsD (sheetsF n acts), 3, rfl, rd_rows st.ra, rfl, okD_sheets _, by decide, showF, ?_⟩
    (repeat (with_reducible (first | refine wSeq ?_ | refine wAsg ?_ | refine wRet ?_ | refine wDrop ?_ | refine wName ?_ | (apply wVar; (case h => with_unfolding_all rfl)) | refine wC ?_ | refine wOp ?_ | refine wUn ?_ | refine wNil ?_ | refine wCons ?_ | refine wCB ?_ | refine wCall ?_ | refine wTest ?_ | refine wBool ?_ | refine wInt ?_ | refine wIfS ?_ | refine wIf ?_ | refine wAnd ?_ | refine wOr ?_ | refine wNot ?_ | refine wAndV ?_ | refine wOrV ?_ | refine wNotV ?_ | refine wTup ?_ | refine wLst ?_ | refine wLstF ?_ | refine wSl ?_ | refine wNoPart ?_ | refine wPart ?_ | refine wBM ?_ | refine wSub ?_ | refine wFor ?_ | refine wIterL ?_ | refine wRng1 ?_ | refine wZip ?_ | refine wLc ?_ | refine wLcF ?_ | refine wYes ?_ | refine wAddI ?_ | refine wIntT ?_ | refine wInt1 ?_ | refine wInt2 ?_ | refine wNext ?_)))
    rw [if_neg (by simp)]
    (repeat (with_reducible (first | refine wSeq ?_ | refine wAsg ?_ | refine wRet ?_ | refine wDrop ?_ | refine wName ?_ | (apply wVar; (case h => with_unfolding_all rfl)) | refine wC ?_ | refine wOp ?_ | refine wUn ?_ | refine wNil ?_ | refine wCons ?_ | refine wCB ?_ | refine wCall ?_ | refine wTest ?_ | refine wBool ?_ | refine wInt ?_ | refine wIfS ?_ | refine wIf ?_ | refine wAnd ?_ | refine wOr ?_ | refine wNot ?_ | refine wAndV ?_ | refine wOrV ?_ | refine wNotV ?_ | refine wTup ?_ | refine wLst ?_ | refine wLstF ?_ | refine wSl ?_ | refine wNoPart ?_ | refine wPart ?_ | refine wBM ?_ | refine wSub ?_ | refine wFor ?_ | refine wIterL ?_ | refine wRng1 ?_ | refine wZip ?_ | refine wLc ?_ | refine wLcF ?_ | refine wYes ?_ | refine wAddI ?_ | refine wIntT ?_ | refine wInt1 ?_ | refine wInt2 ?_ | refine wNext ?_)))
    refine wLenL (seqOf_ref st.hc) ?_
    (repeat (with_reducible (first | refine wSeq ?_ | refine wAsg ?_ | refine wRet ?_ | refine wDrop ?_ | refine wName ?_ | (apply wVar; (case h => with_unfolding_all rfl)) | refine wC ?_ | refine wOp ?_ | refine wUn ?_ | refine wNil ?_ | refine wCons ?_ | refine wCB ?_ | refine wCall ?_ | refine wTest ?_ | refine wBool ?_ | refine wInt ?_ | refine wIfS ?_ | refine wIf ?_ | refine wAnd ?_ | refine wOr ?_ | refine wNot ?_ | refine wAndV ?_ | refine wOrV ?_ | refine wNotV ?_ | refine wTup ?_ | refine wLst ?_ | refine wLstF ?_ | refine wSl ?_ | refine wNoPart ?_ | refine wPart ?_ | refine wBM ?_ | refine wSub ?_ | refine wFor ?_ | refine wIterL ?_ | refine wRng1 ?_ | refine wZip ?_ | refine wLc ?_ | refine wLcF ?_ | refine wYes ?_ | refine wAddI ?_ | refine wIntT ?_ | refine wInt1 ?_ | refine wInt2 ?_ | refine wNext ?_)))
    refine wNeI ?_
    (repeat (with_reducible (first | refine wSeq ?_ | refine wAsg ?_ | refine wRet ?_ | refine wDrop ?_ | refine wName ?_ | (apply wVar; (case h => with_unfolding_all rfl)) | refine wC ?_ | refine wOp ?_ | refine wUn ?_ | refine wNil ?_ | refine wCons ?_ | refine wCB ?_ | refine wCall ?_ | refine wTest ?_ | refine wBool ?_ | refine wInt ?_ | refine wIfS ?_ | refine wIf ?_ | refine wAnd ?_ | refine wOr ?_ | refine wNot ?_ | refine wAndV ?_ | refine wOrV ?_ | refine wNotV ?_ | refine wTup ?_ | refine wLst ?_ | refine wLstF ?_ | refine wSl ?_ | refine wNoPart ?_ | refine wPart ?_ | refine wBM ?_ | refine wSub ?_ | refine wFor ?_ | refine wIterL ?_ | refine wRng1 ?_ | refine wZip ?_ | refine wLc ?_ | refine wLcF ?_ | refine wYes ?_ | refine wAddI ?_ | refine wIntT ?_ | refine wInt1 ?_ | refine wInt2 ?_ | refine wNext ?_)))
    rw [if_neg (by simp [sl])]
    (repeat (with_reducible (first | refine wSeq ?_ | refine wAsg ?_ | refine wRet ?_ | refine wDrop ?_ | refine wName ?_ | (apply wVar; (case h => with_unfolding_all rfl)) | refine wC ?_ | refine wOp ?_ | refine wUn ?_ | refine wNil ?_ | refine wCons ?_ | refine wCB ?_ | refine wCall ?_ | refine wTest ?_ | refine wBool ?_ | refine wInt ?_ | refine wIfS ?_ | refine wIf ?_ | refine wAnd ?_ | refine wOr ?_ | refine wNot ?_ | refine wAndV ?_ | refine wOrV ?_ | refine wNotV ?_ | refine wTup ?_ | refine wLst ?_ | refine wLstF ?_ | refine wSl ?_ | refine wNoPart ?_ | refine wPart ?_ | refine wBM ?_ | refine wSub ?_ | refine wFor ?_ | refine wIterL ?_ | refine wRng1 ?_ | refine wZip ?_ | refine wLc ?_ | refine wLcF ?_ | refine wYes ?_ | refine wAddI ?_ | refine wIntT ?_ | refine wInt1 ?_ | refine wInt2 ?_ | refine wNext ?_)))
    refine wNe (n := 2) (m := 2) (rd_acts st.hh) rfl (okD_acts _) (okD_acts _) (by decide) (by decide) fun k hk => ?_
    have hk' : k = false := by
      cases k
      · rfl
      · exact absurd rfl (hk.mp rfl)
    subst hk'
    refine ⟨false, rfl, ?_⟩
    rw [if_neg (by simp)]
    (repeat (with_reducible (first | refine wAsg ?_ | refine wRet ?_ | refine wDrop ?_ | refine wName ?_ | (apply wVar; (case h => with_unfolding_all rfl)) | refine wC ?_ | refine wOp ?_ | refine wUn ?_ | refine wNil ?_ | refine wCons ?_ | refine wCB ?_ | refine wCall ?_ | refine wTest ?_ | refine wBool ?_ | refine wInt ?_ | refine wIfS ?_ | refine wIf ?_ | refine wAnd ?_ | refine wOr ?_ | refine wNot ?_ | refine wAndV ?_ | refine wOrV ?_ | refine wNotV ?_ | refine wTup ?_ | refine wLst ?_ | refine wLstF ?_ | refine wSl ?_ | refine wNoPart ?_ | refine wPart ?_ | refine wBM ?_ | refine wSub ?_ | refine wFor ?_ | refine wIterL ?_ | refine wRng1 ?_ | refine wZip ?_ | refine wLc ?_ | refine wLcF ?_ | refine wYes ?_ | refine wAddI ?_ | refine wIntT ?_ | refine wInt1 ?_ | refine wInt2 ?_ | refine wNext ?_)))
    -- copy by copy
    with_reducible refine wMid (fun ρ M' => M' = M4 ∧ ∃ (x10 x11 x12 : Option DV), ρ = [some x, some (.ref pd), some (.d (.int n)), some (.d (actsD acts)), some (.ref ph), some (.ref pw), some (.d (sheetsD (sheetsF n acts))), some (.d (lastD n (sheetsF n acts))), some (.ref pt), some (.ref pc), x10, x11, x12, none, none, none, none, x17, x18, x19]) ?_ ?_
    · intro K1 hK1
      (repeat (with_reducible (first | refine wSeq ?_ | refine wAsg ?_ | refine wRet ?_ | refine wDrop ?_ | refine wName ?_ | (apply wVar; (case h => with_unfolding_all rfl)) | refine wC ?_ | refine wOp ?_ | refine wUn ?_ | refine wNil ?_ | refine wCons ?_ | refine wCB ?_ | refine wCall ?_ | refine wTest ?_ | refine wBool ?_ | refine wInt ?_ | refine wIfS ?_ | refine wIf ?_ | refine wAnd ?_ | refine wOr ?_ | refine wNot ?_ | refine wAndV ?_ | refine wOrV ?_ | refine wNotV ?_ | refine wTup ?_ | refine wLst ?_ | refine wLstF ?_ | refine wSl ?_ | refine wNoPart ?_ | refine wPart ?_ | refine wBM ?_ | refine wSub ?_ | refine wFor ?_ | refine wIterL ?_ | refine wRng1 ?_ | refine wZip ?_ | refine wLc ?_ | refine wLcF ?_ | refine wYes ?_ | refine wAddI ?_ | refine wIntT ?_ | refine wInt1 ?_ | refine wInt2 ?_ | refine wNext ?_)))
      refine ⟨_, rfl, by omega, by omega, ?_⟩
      rw [Int.toNat_natCast]
      refine forW_inv (fun i ρ M' => M' = M4 ∧ ∃ (x10 x11 x12 : Option DV), ρ = [some x, some (.ref pd), some (.d (.int n)), some (.d (actsD acts)), some (.ref ph), some (.ref pw), some (.d (sheetsD (sheetsF n acts))), some (.d (lastD n (sheetsF n acts))), some (.ref pt), some (.ref pc), x10, x11, x12, none, none, none, none, x17, x18, x19]) ?_ ?_ ?_
      · exact ⟨rfl, _, _, _, rfl⟩
      · rintro i u ρ M' hu ⟨rfl, x10, x11, x12, rfl⟩
        refine ⟨trivial, fun K2 hK2 => ?_⟩
        obtain ⟨hi, rfl⟩ := rng_int hu
        have rok := sq.rowOk hi
        have hF : (sheetsF n acts)[i]? = some ((sheetsF n acts).getD i []) := getD_some (by rw [sq.len]; exact hi)
        have hs := least_small hok hn1 hn2 hlen4 (List.mem_of_getElem? hF)
        have hFd : (((sheetsF n acts).map sheetD).map DV.d)[i]? = some (.d (sheetD ((sheetsF n acts).getD i []))) := by rw [List.getElem?_map, List.getElem?_map, hF]; rfl
        have hii := (sq.at2 hi hi).1
        have hd : (diag n (sheetsF n acts))[i]? = some (at2 (sheetsF n acts) i i) := by
          rw [diag, List.getElem?_map, List.getElem?_range hi]
          rfl
        have ix6 : ∀ (Q : DK), Q (.d (sheetD ((sheetsF n acts).getD i []))) M' → rIxD (.d (sheetsD (sheetsF n acts))) (.d (.int (i : Nat))) M' Q := fun Q k => wIx i seqOf_list hFd rfl k
        (repeat (with_reducible (first | refine wSeq ?_ | refine wAsg ?_ | refine wRet ?_ | refine wDrop ?_ | refine wName ?_ | (apply wVar; (case h => with_unfolding_all rfl)) | refine wC ?_ | refine wOp ?_ | refine wUn ?_ | refine wNil ?_ | refine wCons ?_ | refine wCB ?_ | refine wCall ?_ | refine wTest ?_ | refine wBool ?_ | refine wInt ?_ | refine wIfS ?_ | refine wIf ?_ | refine wAnd ?_ | refine wOr ?_ | refine wNot ?_ | refine wAndV ?_ | refine wOrV ?_ | refine wNotV ?_ | refine wTup ?_ | refine wLst ?_ | refine wLstF ?_ | refine wSl ?_ | refine wNoPart ?_ | refine wPart ?_ | refine wBM ?_ | refine wSub ?_ | refine wFor ?_ | refine wIterL ?_ | refine wRng1 ?_ | refine wZip ?_ | refine wLc ?_ | refine wLcF ?_ | refine wYes ?_ | refine wAddI ?_ | refine wIntT ?_ | refine wInt1 ?_ | refine wInt2 ?_ | refine wNext ?_)))
        refine ix6 _ ?_
        (repeat (with_reducible (first | refine wSeq ?_ | refine wAsg ?_ | refine wRet ?_ | refine wDrop ?_ | refine wName ?_ | (apply wVar; (case h => with_unfolding_all rfl)) | refine wC ?_ | refine wOp ?_ | refine wUn ?_ | refine wNil ?_ | refine wCons ?_ | refine wCB ?_ | refine wCall ?_ | refine wTest ?_ | refine wBool ?_ | refine wInt ?_ | refine wIfS ?_ | refine wIf ?_ | refine wAnd ?_ | refine wOr ?_ | refine wNot ?_ | refine wAndV ?_ | refine wOrV ?_ | refine wNotV ?_ | refine wTup ?_ | refine wLst ?_ | refine wLstF ?_ | refine wSl ?_ | refine wNoPart ?_ | refine wPart ?_ | refine wBM ?_ | refine wSub ?_ | refine wFor ?_ | refine wIterL ?_ | refine wRng1 ?_ | refine wZip ?_ | refine wLc ?_ | refine wLcF ?_ | refine wYes ?_ | refine wAddI ?_ | refine wIntT ?_ | refine wInt1 ?_ | refine wInt2 ?_ | refine wNext ?_)))
        refine wIx i (d := vecV (at2 (sheetsF n acts) i i)) seqOf_list (by rw [List.getElem?_map, List.getElem?_map, hii]; rfl) rfl ?_
        (repeat (with_reducible (first | refine wSeq ?_ | refine wAsg ?_ | refine wRet ?_ | refine wDrop ?_ | refine wName ?_ | (apply wVar; (case h => with_unfolding_all rfl)) | refine wC ?_ | refine wOp ?_ | refine wUn ?_ | refine wNil ?_ | refine wCons ?_ | refine wCB ?_ | refine wCall ?_ | refine wTest ?_ | refine wBool ?_ | refine wInt ?_ | refine wIfS ?_ | refine wIf ?_ | refine wAnd ?_ | refine wOr ?_ | refine wNot ?_ | refine wAndV ?_ | refine wOrV ?_ | refine wNotV ?_ | refine wTup ?_ | refine wLst ?_ | refine wLstF ?_ | refine wSl ?_ | refine wNoPart ?_ | refine wPart ?_ | refine wBM ?_ | refine wSub ?_ | refine wFor ?_ | refine wIterL ?_ | refine wRng1 ?_ | refine wZip ?_ | refine wLc ?_ | refine wLcF ?_ | refine wYes ?_ | refine wAddI ?_ | refine wIntT ?_ | refine wInt1 ?_ | refine wInt2 ?_ | refine wNext ?_)))
        refine wIx i (d := vecV (at2 (sheetsF n acts) i i)) seqOf_list (by rw [List.getElem?_map, List.getElem?_map, hd]; rfl) rfl ?_
        refine wNe (n := 1) (m := 1) rfl rfl (okD_vec _ 0) (okD_vec _ 0) (by decide) (by decide) fun k hk => ?_
        have hk' : k = false := by
          cases k
          · rfl
          · exact absurd rfl (hk.mp rfl)
        subst hk'
        refine ⟨false, rfl, ?_⟩
        rw [if_neg (by simp)]
        with_reducible refine wNext ?_
        with_reducible refine wSeq ?_
        with_reducible refine wAsg ?_
        refine least_wp rok hn1 hn2 (fun k Q hQ => ?_) ?_
        · (repeat (with_reducible (first | refine wSeq ?_ | refine wAsg ?_ | refine wRet ?_ | refine wDrop ?_ | refine wName ?_ | (apply wVar; (case h => with_unfolding_all rfl)) | refine wC ?_ | refine wOp ?_ | refine wUn ?_ | refine wNil ?_ | refine wCons ?_ | refine wCB ?_ | refine wCall ?_ | refine wTest ?_ | refine wBool ?_ | refine wInt ?_ | refine wIfS ?_ | refine wIf ?_ | refine wAnd ?_ | refine wOr ?_ | refine wNot ?_ | refine wAndV ?_ | refine wOrV ?_ | refine wNotV ?_ | refine wTup ?_ | refine wLst ?_ | refine wLstF ?_ | refine wSl ?_ | refine wNoPart ?_ | refine wPart ?_ | refine wBM ?_ | refine wSub ?_ | refine wFor ?_ | refine wIterL ?_ | refine wRng1 ?_ | refine wZip ?_ | refine wLc ?_ | refine wLcF ?_ | refine wYes ?_ | refine wAddI ?_ | refine wIntT ?_ | refine wInt1 ?_ | refine wInt2 ?_ | refine wNext ?_)))
          exact ix6 _ hQ
        with_reducible refine wName ?_
        with_reducible refine wSeq ?_
        with_reducible refine wAsg ?_
        refine least_wp dok hn1 hn2 (fun k Q hQ => ?_) ?_
        · (repeat (with_reducible (first | refine wSeq ?_ | refine wAsg ?_ | refine wRet ?_ | refine wDrop ?_ | refine wName ?_ | (apply wVar; (case h => with_unfolding_all rfl)) | refine wC ?_ | refine wOp ?_ | refine wUn ?_ | refine wNil ?_ | refine wCons ?_ | refine wCB ?_ | refine wCall ?_ | refine wTest ?_ | refine wBool ?_ | refine wInt ?_ | refine wIfS ?_ | refine wIf ?_ | refine wAnd ?_ | refine wOr ?_ | refine wNot ?_ | refine wAndV ?_ | refine wOrV ?_ | refine wNotV ?_ | refine wTup ?_ | refine wLst ?_ | refine wLstF ?_ | refine wSl ?_ | refine wNoPart ?_ | refine wPart ?_ | refine wBM ?_ | refine wSub ?_ | refine wFor ?_ | refine wIterL ?_ | refine wRng1 ?_ | refine wZip ?_ | refine wLc ?_ | refine wLcF ?_ | refine wYes ?_ | refine wAddI ?_ | refine wIntT ?_ | refine wInt1 ?_ | refine wInt2 ?_ | refine wNext ?_)))
          exact hQ
        (repeat (with_reducible (first | refine wSeq ?_ | refine wAsg ?_ | refine wRet ?_ | refine wDrop ?_ | refine wName ?_ | (apply wVar; (case h => with_unfolding_all rfl)) | refine wC ?_ | refine wOp ?_ | refine wUn ?_ | refine wNil ?_ | refine wCons ?_ | refine wCB ?_ | refine wCall ?_ | refine wTest ?_ | refine wBool ?_ | refine wInt ?_ | refine wIfS ?_ | refine wIf ?_ | refine wAnd ?_ | refine wOr ?_ | refine wNot ?_ | refine wAndV ?_ | refine wOrV ?_ | refine wNotV ?_ | refine wTup ?_ | refine wLst ?_ | refine wLstF ?_ | refine wSl ?_ | refine wNoPart ?_ | refine wPart ?_ | refine wBM ?_ | refine wSub ?_ | refine wFor ?_ | refine wIterL ?_ | refine wRng1 ?_ | refine wZip ?_ | refine wLc ?_ | refine wLcF ?_ | refine wYes ?_ | refine wAddI ?_ | refine wIntT ?_ | refine wInt1 ?_ | refine wInt2 ?_ | refine wNext ?_)))
        refine wIx i (seqOf_ref st.hc) (d := vecV (leastS ((sheetsF n acts).getD i []))) (by rw [List.getElem?_map, sureF, List.getElem?_map, hF]; rfl) rfl ?_
        (repeat (with_reducible (first | refine wSeq ?_ | refine wAsg ?_ | refine wRet ?_ | refine wDrop ?_ | refine wName ?_ | (apply wVar; (case h => with_unfolding_all rfl)) | refine wC ?_ | refine wOp ?_ | refine wUn ?_ | refine wNil ?_ | refine wCons ?_ | refine wCB ?_ | refine wCall ?_ | refine wTest ?_ | refine wBool ?_ | refine wInt ?_ | refine wIfS ?_ | refine wIf ?_ | refine wAnd ?_ | refine wOr ?_ | refine wNot ?_ | refine wAndV ?_ | refine wOrV ?_ | refine wNotV ?_ | refine wTup ?_ | refine wLst ?_ | refine wLstF ?_ | refine wSl ?_ | refine wNoPart ?_ | refine wPart ?_ | refine wBM ?_ | refine wSub ?_ | refine wFor ?_ | refine wIterL ?_ | refine wRng1 ?_ | refine wZip ?_ | refine wLc ?_ | refine wLcF ?_ | refine wYes ?_ | refine wAddI ?_ | refine wIntT ?_ | refine wInt1 ?_ | refine wInt2 ?_ | refine wNext ?_)))
        refine ⟨_, _, vecD (leastS ((sheetsF n acts).getD i [])), 1, rfl, rfl, rfl, okD_vec _ 0, by decide, (short_vec hs.2).show (okD_vec _ 0) (by decide) (by decide), ?_⟩
        (repeat (with_reducible (first | refine wSeq ?_ | refine wAsg ?_ | refine wRet ?_ | refine wDrop ?_ | refine wName ?_ | (apply wVar; (case h => with_unfolding_all rfl)) | refine wC ?_ | refine wOp ?_ | refine wUn ?_ | refine wNil ?_ | refine wCons ?_ | refine wCB ?_ | refine wCall ?_ | refine wTest ?_ | refine wBool ?_ | refine wInt ?_ | refine wIfS ?_ | refine wIf ?_ | refine wAnd ?_ | refine wOr ?_ | refine wNot ?_ | refine wAndV ?_ | refine wOrV ?_ | refine wNotV ?_ | refine wTup ?_ | refine wLst ?_ | refine wLstF ?_ | refine wSl ?_ | refine wNoPart ?_ | refine wPart ?_ | refine wBM ?_ | refine wSub ?_ | refine wFor ?_ | refine wIterL ?_ | refine wRng1 ?_ | refine wZip ?_ | refine wLc ?_ | refine wLcF ?_ | refine wYes ?_ | refine wAddI ?_ | refine wIntT ?_ | refine wInt1 ?_ | refine wInt2 ?_ | refine wNext ?_)))
        rw [if_neg (by simp)]
        (repeat (with_reducible (first | refine wSeq ?_ | refine wAsg ?_ | refine wRet ?_ | refine wDrop ?_ | refine wName ?_ | (apply wVar; (case h => with_unfolding_all rfl)) | refine wC ?_ | refine wOp ?_ | refine wUn ?_ | refine wNil ?_ | refine wCons ?_ | refine wCB ?_ | refine wCall ?_ | refine wTest ?_ | refine wBool ?_ | refine wInt ?_ | refine wIfS ?_ | refine wIf ?_ | refine wAnd ?_ | refine wOr ?_ | refine wNot ?_ | refine wAndV ?_ | refine wOrV ?_ | refine wNotV ?_ | refine wTup ?_ | refine wLst ?_ | refine wLstF ?_ | refine wSl ?_ | refine wNoPart ?_ | refine wPart ?_ | refine wBM ?_ | refine wSub ?_ | refine wFor ?_ | refine wIterL ?_ | refine wRng1 ?_ | refine wZip ?_ | refine wLc ?_ | refine wLcF ?_ | refine wYes ?_ | refine wAddI ?_ | refine wIntT ?_ | refine wInt1 ?_ | refine wInt2 ?_ | refine wNext ?_)))
        have l1 := (leastS_get rok hn1 (c := 0) (by omega)).1
        have l2 := (leastS_get dok hn1 (c := 0) (by omega)).1
        refine ⟨_, _, rfl, by omega, by omega, ?_⟩
        rw [join_least hok hn1 hi]
        (repeat (with_reducible (first | refine wSeq ?_ | refine wAsg ?_ | refine wRet ?_ | refine wDrop ?_ | refine wName ?_ | (apply wVar; (case h => with_unfolding_all rfl)) | refine wC ?_ | refine wOp ?_ | refine wUn ?_ | refine wNil ?_ | refine wCons ?_ | refine wCB ?_ | refine wCall ?_ | refine wTest ?_ | refine wBool ?_ | refine wInt ?_ | refine wIfS ?_ | refine wIf ?_ | refine wAnd ?_ | refine wOr ?_ | refine wNot ?_ | refine wAndV ?_ | refine wOrV ?_ | refine wNotV ?_ | refine wTup ?_ | refine wLst ?_ | refine wLstF ?_ | refine wSl ?_ | refine wNoPart ?_ | refine wPart ?_ | refine wBM ?_ | refine wSub ?_ | refine wFor ?_ | refine wIterL ?_ | refine wRng1 ?_ | refine wZip ?_ | refine wLc ?_ | refine wLcF ?_ | refine wYes ?_ | refine wAddI ?_ | refine wIntT ?_ | refine wInt1 ?_ | refine wInt2 ?_ | refine wNext ?_)))
        refine wNe (n := 1) (m := 1) rfl rfl (okD_vec _ 0) (okD_vec _ 0) (by decide) (by decide) fun k hk => ?_
        have hk' : k = false := by
          cases k
          · rfl
          · exact absurd rfl (hk.mp rfl)
        subst hk'
        refine ⟨false, rfl, ?_⟩
        rw [if_neg (by simp)]
        (repeat (with_reducible (first | refine wSeq ?_ | refine wAsg ?_ | refine wRet ?_ | refine wDrop ?_ | refine wName ?_ | (apply wVar; (case h => with_unfolding_all rfl)) | refine wC ?_ | refine wOp ?_ | refine wUn ?_ | refine wNil ?_ | refine wCons ?_ | refine wCB ?_ | refine wCall ?_ | refine wTest ?_ | refine wBool ?_ | refine wInt ?_ | refine wIfS ?_ | refine wIf ?_ | refine wAnd ?_ | refine wOr ?_ | refine wNot ?_ | refine wAndV ?_ | refine wOrV ?_ | refine wNotV ?_ | refine wTup ?_ | refine wLst ?_ | refine wLstF ?_ | refine wSl ?_ | refine wNoPart ?_ | refine wPart ?_ | refine wBM ?_ | refine wSub ?_ | refine wFor ?_ | refine wIterL ?_ | refine wRng1 ?_ | refine wZip ?_ | refine wLc ?_ | refine wLcF ?_ | refine wYes ?_ | refine wAddI ?_ | refine wIntT ?_ | refine wInt1 ?_ | refine wInt2 ?_ | refine wNext ?_)))
        exact hK2 _ _ ⟨rfl, _, _, _, rfl⟩
      · rintro ρ M' ⟨rfl, x10, x11, x12, rfl⟩
        exact ⟨trivial, hK1 _ _ ⟨rfl, _, _, _, rfl⟩⟩
    · rintro ρ M' ⟨rfl, x10, x11, x12, rfl⟩
      (repeat (with_reducible (first | refine wSeq ?_ | refine wAsg ?_ | refine wRet ?_ | refine wDrop ?_ | refine wName ?_ | (apply wVar; (case h => with_unfolding_all rfl)) | refine wC ?_ | refine wOp ?_ | refine wUn ?_ | refine wNil ?_ | refine wCons ?_ | refine wCB ?_ | refine wCall ?_ | refine wTest ?_ | refine wBool ?_ | refine wInt ?_ | refine wIfS ?_ | refine wIf ?_ | refine wAnd ?_ | refine wOr ?_ | refine wNot ?_ | refine wAndV ?_ | refine wOrV ?_ | refine wNotV ?_ | refine wTup ?_ | refine wLst ?_ | refine wLstF ?_ | refine wSl ?_ | refine wNoPart ?_ | refine wPart ?_ | refine wBM ?_ | refine wSub ?_ | refine wFor ?_ | refine wIterL ?_ | refine wRng1 ?_ | refine wZip ?_ | refine wLc ?_ | refine wLcF ?_ | refine wYes ?_ | refine wAddI ?_ | refine wIntT ?_ | refine wInt1 ?_ | refine wInt2 ?_ | refine wNext ?_)))
      refine ⟨_, _, (sureF n acts).map vecD, rfl, seqOf_ref st.hc, dataL_map' _ vecD, ?_⟩
      (repeat (with_reducible (first | refine wAsg ?_ | refine wRet ?_ | refine wDrop ?_ | refine wName ?_ | (apply wVar; (case h => with_unfolding_all rfl)) | refine wC ?_ | refine wOp ?_ | refine wUn ?_ | refine wNil ?_ | refine wCons ?_ | refine wCB ?_ | refine wCall ?_ | refine wTest ?_ | refine wBool ?_ | refine wInt ?_ | refine wIfS ?_ | refine wIf ?_ | refine wAnd ?_ | refine wOr ?_ | refine wNot ?_ | refine wAndV ?_ | refine wOrV ?_ | refine wNotV ?_ | refine wTup ?_ | refine wLst ?_ | refine wLstF ?_ | refine wSl ?_ | refine wNoPart ?_ | refine wPart ?_ | refine wBM ?_ | refine wSub ?_ | refine wFor ?_ | refine wIterL ?_ | refine wRng1 ?_ | refine wZip ?_ | refine wLc ?_ | refine wLcF ?_ | refine wYes ?_ | refine wAddI ?_ | refine wIntT ?_ | refine wInt1 ?_ | refine wInt2 ?_ | refine wNext ?_)))
      -- the rows that were told are spoilt
      have zl : ∀ m : Nat, m ≤ 100 → m < sizeLine := fun m h => Nat.lt_of_le_of_lt h (by decide)
      have spoil : ∀ j, j < n → (((sheetsF n acts).getD j []).map vecV).length = n := fun j hj => by rw [List.length_map, sq.row_at hj]
      have rtl : rt.length = n := by rw [st.ra.len, sq.len]
      with_reducible refine wMid (fun ρ M5 => ∃ (x14 : Option DV), M5 ph = some (.lst (acts.map fun x => DV.d x.data)) ∧ M5 pc = some (.lst ((sureF n acts).map vecV)) ∧ M5 pt = some (.lst (rt.map .ref)) ∧
        (∀ j r, rt[j]? = some r → M5 r = some (.lst (((sheetsF n acts).getD j []).map vecV ++ [.d (.str "spoilt")]))) ∧
        ρ = [some x, some (.ref pd), some (.d (.int n)), some (.d (actsD acts)), some (.ref ph), some (.ref pw), some (.d (sheetsD (sheetsF n acts))), some (.d (lastD n (sheetsF n acts))), some (.ref pt), some (.ref pc), x10, x11, x12, some (.d (.list ((sureF n acts).map vecD))), x14, none, none, x17, x18, x19]) ?_ ?_
      · intro K1 hK1
        (repeat (with_reducible (first | refine wSeq ?_ | refine wAsg ?_ | refine wRet ?_ | refine wDrop ?_ | refine wName ?_ | (apply wVar; (case h => with_unfolding_all rfl)) | refine wC ?_ | refine wOp ?_ | refine wUn ?_ | refine wNil ?_ | refine wCons ?_ | refine wCB ?_ | refine wCall ?_ | refine wTest ?_ | refine wBool ?_ | refine wInt ?_ | refine wIfS ?_ | refine wIf ?_ | refine wAnd ?_ | refine wOr ?_ | refine wNot ?_ | refine wAndV ?_ | refine wOrV ?_ | refine wNotV ?_ | refine wTup ?_ | refine wLst ?_ | refine wLstF ?_ | refine wSl ?_ | refine wNoPart ?_ | refine wPart ?_ | refine wBM ?_ | refine wSub ?_ | refine wFor ?_ | refine wIterL ?_ | refine wRng1 ?_ | refine wZip ?_ | refine wLc ?_ | refine wLcF ?_ | refine wYes ?_ | refine wAddI ?_ | refine wIntT ?_ | refine wInt1 ?_ | refine wInt2 ?_ | refine wNext ?_)))
        refine ⟨_, listOf_ref st.ra.top, ?_⟩
        refine forW_inv (fun i ρ M5 => ∃ (x14 : Option DV), M5 ph = some (.lst (acts.map fun x => DV.d x.data)) ∧ M5 pc = some (.lst ((sureF n acts).map vecV)) ∧ M5 pt = some (.lst (rt.map .ref)) ∧
          (∀ j r, rt[j]? = some r → M5 r = some (.lst (((sheetsF n acts).getD j []).map vecV ++ if j < i then [.d (.str "spoilt")] else []))) ∧
          ρ = [some x, some (.ref pd), some (.d (.int n)), some (.d (actsD acts)), some (.ref ph), some (.ref pw), some (.d (sheetsD (sheetsF n acts))), some (.d (lastD n (sheetsF n acts))), some (.ref pt), some (.ref pc), x10, x11, x12, some (.d (.list ((sureF n acts).map vecD))), x14, none, none, x17, x18, x19]) ?_ ?_ ?_
        · refine ⟨_, st.hh, st.hc, st.ra.top, fun j r hr => ?_, rfl⟩
          rw [st.ra.row j r hr]
          simp
        · rintro i u ρ M5 hu ⟨x14, e1, e2, e3, e4, rfl⟩
          refine ⟨listOf_ref e3, fun K2 hK2 => ?_⟩
          obtain ⟨r, hr, rfl⟩ : ∃ r, rt[i]? = some r ∧ u = .ref r := by
            rw [List.getElem?_map] at hu
            cases e : rt[i]? with
            | none => rw [e] at hu; simp at hu
            | some a => rw [e] at hu; exact ⟨a, rfl, (Option.some.inj hu).symm⟩
          have hi : i < n := by rw [← rtl]; exact (List.getElem?_eq_some_iff.mp hr).1
          have hm := List.mem_of_getElem? hr
          have er := e4 i r hr
          rw [if_neg (by omega), List.append_nil] at er
          (repeat (with_reducible (first | refine wSeq ?_ | refine wAsg ?_ | refine wRet ?_ | refine wDrop ?_ | refine wName ?_ | (apply wVar; (case h => with_unfolding_all rfl)) | refine wC ?_ | refine wOp ?_ | refine wUn ?_ | refine wNil ?_ | refine wCons ?_ | refine wCB ?_ | refine wCall ?_ | refine wTest ?_ | refine wBool ?_ | refine wInt ?_ | refine wIfS ?_ | refine wIf ?_ | refine wAnd ?_ | refine wOr ?_ | refine wNot ?_ | refine wAndV ?_ | refine wOrV ?_ | refine wNotV ?_ | refine wTup ?_ | refine wLst ?_ | refine wLstF ?_ | refine wSl ?_ | refine wNoPart ?_ | refine wPart ?_ | refine wBM ?_ | refine wSub ?_ | refine wFor ?_ | refine wIterL ?_ | refine wRng1 ?_ | refine wZip ?_ | refine wLc ?_ | refine wLcF ?_ | refine wYes ?_ | refine wAddI ?_ | refine wIntT ?_ | refine wInt1 ?_ | refine wInt2 ?_ | refine wNext ?_)))
          refine ⟨isLst_ref er, ?_⟩
          (repeat (with_reducible (first | refine wSeq ?_ | refine wAsg ?_ | refine wRet ?_ | refine wDrop ?_ | refine wName ?_ | (apply wVar; (case h => with_unfolding_all rfl)) | refine wC ?_ | refine wOp ?_ | refine wUn ?_ | refine wNil ?_ | refine wCons ?_ | refine wCB ?_ | refine wCall ?_ | refine wTest ?_ | refine wBool ?_ | refine wInt ?_ | refine wIfS ?_ | refine wIf ?_ | refine wAnd ?_ | refine wOr ?_ | refine wNot ?_ | refine wAndV ?_ | refine wOrV ?_ | refine wNotV ?_ | refine wTup ?_ | refine wLst ?_ | refine wLstF ?_ | refine wSl ?_ | refine wNoPart ?_ | refine wPart ?_ | refine wBM ?_ | refine wSub ?_ | refine wFor ?_ | refine wIterL ?_ | refine wRng1 ?_ | refine wZip ?_ | refine wLc ?_ | refine wLcF ?_ | refine wYes ?_ | refine wAddI ?_ | refine wIntT ?_ | refine wInt1 ?_ | refine wInt2 ?_ | refine wNext ?_)))
          refine wAppend rfl er (zl _ (by rw [spoil i hi]; omega)) ?_
          refine hK2 _ _ ⟨_, ?_, ?_, ?_, fun j r' hr' => ?_, rfl⟩
          · rw [put_ne fun e => st.nh (by rw [e]; exact hm)]; exact e1
          · rw [put_ne fun e => st.cr (by rw [e]; exact hm)]; exact e2
          · rw [put_ne fun e => st.ra.out (by rw [e]; exact hm)]; exact e3
          · by_cases c : j = i
            · subst c
              rw [hr] at hr'
              obtain rfl := Option.some.inj hr'
              rw [put_same, if_pos (by omega)]
            · have ne : r' ≠ r := fun e => by
                subst e
                have h1 := (List.getElem?_eq_some_iff.mp hr).1
                have h2 := (List.getElem?_eq_some_iff.mp hr').1
                exact c ((List.getElem?_inj h2 st.ra.nd).mp (by rw [hr, hr']))
              rw [put_ne ne, e4 j r' hr']
              by_cases c2 : j < i
              · rw [if_pos c2, if_pos (by omega)]
              · rw [if_neg c2, if_neg (by omega)]
        · rintro ρ M5 ⟨x14, e1, e2, e3, e4, rfl⟩
          refine ⟨listOf_ref e3, hK1 _ _ ⟨x14, e1, e2, e3, fun j r hr => ?_, rfl⟩⟩
          have hj : j < n := by rw [← rtl]; exact (List.getElem?_eq_some_iff.mp hr).1
          rw [e4 j r hr, if_pos (by simp [rtl]; exact hj)]
      · rintro ρ M5 ⟨x14, e1, e2, e3, e4, rfl⟩
        (repeat (with_reducible (first | refine wSeq ?_ | refine wAsg ?_ | refine wRet ?_ | refine wDrop ?_ | refine wName ?_ | (apply wVar; (case h => with_unfolding_all rfl)) | refine wC ?_ | refine wOp ?_ | refine wUn ?_ | refine wNil ?_ | refine wCons ?_ | refine wCB ?_ | refine wCall ?_ | refine wTest ?_ | refine wBool ?_ | refine wInt ?_ | refine wIfS ?_ | refine wIf ?_ | refine wAnd ?_ | refine wOr ?_ | refine wNot ?_ | refine wAndV ?_ | refine wOrV ?_ | refine wNotV ?_ | refine wTup ?_ | refine wLst ?_ | refine wLstF ?_ | refine wSl ?_ | refine wNoPart ?_ | refine wPart ?_ | refine wBM ?_ | refine wSub ?_ | refine wFor ?_ | refine wIterL ?_ | refine wRng1 ?_ | refine wZip ?_ | refine wLc ?_ | refine wLcF ?_ | refine wYes ?_ | refine wAddI ?_ | refine wIntT ?_ | refine wInt1 ?_ | refine wInt2 ?_ | refine wNext ?_)))
        refine ⟨isLst_ref e2, ?_⟩
        (repeat (with_reducible (first | refine wSeq ?_ | refine wAsg ?_ | refine wRet ?_ | refine wDrop ?_ | refine wName ?_ | (apply wVar; (case h => with_unfolding_all rfl)) | refine wC ?_ | refine wOp ?_ | refine wUn ?_ | refine wNil ?_ | refine wCons ?_ | refine wCB ?_ | refine wCall ?_ | refine wTest ?_ | refine wBool ?_ | refine wInt ?_ | refine wIfS ?_ | refine wIf ?_ | refine wAnd ?_ | refine wOr ?_ | refine wNot ?_ | refine wAndV ?_ | refine wOrV ?_ | refine wNotV ?_ | refine wTup ?_ | refine wLst ?_ | refine wLstF ?_ | refine wSl ?_ | refine wNoPart ?_ | refine wPart ?_ | refine wBM ?_ | refine wSub ?_ | refine wFor ?_ | refine wIterL ?_ | refine wRng1 ?_ | refine wZip ?_ | refine wLc ?_ | refine wLcF ?_ | refine wYes ?_ | refine wAddI ?_ | refine wIntT ?_ | refine wInt1 ?_ | refine wInt2 ?_ | refine wNext ?_)))
        refine wAppend rfl e2 (zl _ (by simp [sl]; omega)) ?_
        (repeat (with_reducible (first | refine wSeq ?_ | refine wAsg ?_ | refine wRet ?_ | refine wDrop ?_ | refine wName ?_ | (apply wVar; (case h => with_unfolding_all rfl)) | refine wC ?_ | refine wOp ?_ | refine wUn ?_ | refine wNil ?_ | refine wCons ?_ | refine wCB ?_ | refine wCall ?_ | refine wTest ?_ | refine wBool ?_ | refine wInt ?_ | refine wIfS ?_ | refine wIf ?_ | refine wAnd ?_ | refine wOr ?_ | refine wNot ?_ | refine wAndV ?_ | refine wOrV ?_ | refine wNotV ?_ | refine wTup ?_ | refine wLst ?_ | refine wLstF ?_ | refine wSl ?_ | refine wNoPart ?_ | refine wPart ?_ | refine wBM ?_ | refine wSub ?_ | refine wFor ?_ | refine wIterL ?_ | refine wRng1 ?_ | refine wZip ?_ | refine wLc ?_ | refine wLcF ?_ | refine wYes ?_ | refine wAddI ?_ | refine wIntT ?_ | refine wInt1 ?_ | refine wInt2 ?_ | refine wNext ?_)))
        -- each has one more
        have f3 : put M5 pc (.lst ((sureF n acts).map vecV ++ [.d (.str "spoilt")])) pt = some (.lst (rt.map .ref)) := by rw [put_ne st.cp.symm]; exact e3
        refine ⟨_, listOf_ref f3, ?_⟩
        refine lcW_map (List.replicate n (.d (.bool true))) (by simp [rtl]) (lenOk (by simp [rtl]; omega)) (listOf_ref f3) ?_ ?_
        · intro i u y hu hy K2 k2
          obtain ⟨r, hr, rfl⟩ : ∃ r, rt[i]? = some r ∧ u = .ref r := by
            rw [List.getElem?_map] at hu
            cases e : rt[i]? with
            | none => rw [e] at hu; simp at hu
            | some a => rw [e] at hu; exact ⟨a, rfl, (Option.some.inj hu).symm⟩
          have hi : i < n := by rw [← rtl]; exact (List.getElem?_eq_some_iff.mp hr).1
          have hm := List.mem_of_getElem? hr
          (repeat (with_reducible (first | refine wSeq ?_ | refine wAsg ?_ | refine wRet ?_ | refine wDrop ?_ | refine wName ?_ | (apply wVar; (case h => with_unfolding_all rfl)) | refine wC ?_ | refine wOp ?_ | refine wUn ?_ | refine wNil ?_ | refine wCons ?_ | refine wCB ?_ | refine wCall ?_ | refine wTest ?_ | refine wBool ?_ | refine wInt ?_ | refine wIfS ?_ | refine wIf ?_ | refine wAnd ?_ | refine wOr ?_ | refine wNot ?_ | refine wAndV ?_ | refine wOrV ?_ | refine wNotV ?_ | refine wTup ?_ | refine wLst ?_ | refine wLstF ?_ | refine wSl ?_ | refine wNoPart ?_ | refine wPart ?_ | refine wBM ?_ | refine wSub ?_ | refine wFor ?_ | refine wIterL ?_ | refine wRng1 ?_ | refine wZip ?_ | refine wLc ?_ | refine wLcF ?_ | refine wYes ?_ | refine wAddI ?_ | refine wIntT ?_ | refine wInt1 ?_ | refine wInt2 ?_ | refine wNext ?_)))
          refine wLenL (seqOf_ref (by rw [put_ne fun e => st.cr (by rw [← e]; exact hm)]; exact e4 i r hr)) ?_
          (repeat (with_reducible (first | refine wSeq ?_ | refine wAsg ?_ | refine wRet ?_ | refine wDrop ?_ | refine wName ?_ | (apply wVar; (case h => with_unfolding_all rfl)) | refine wC ?_ | refine wOp ?_ | refine wUn ?_ | refine wNil ?_ | refine wCons ?_ | refine wCB ?_ | refine wCall ?_ | refine wTest ?_ | refine wBool ?_ | refine wInt ?_ | refine wIfS ?_ | refine wIf ?_ | refine wAnd ?_ | refine wOr ?_ | refine wNot ?_ | refine wAndV ?_ | refine wOrV ?_ | refine wNotV ?_ | refine wTup ?_ | refine wLst ?_ | refine wLstF ?_ | refine wSl ?_ | refine wNoPart ?_ | refine wPart ?_ | refine wBM ?_ | refine wSub ?_ | refine wFor ?_ | refine wIterL ?_ | refine wRng1 ?_ | refine wZip ?_ | refine wLc ?_ | refine wLcF ?_ | refine wYes ?_ | refine wAddI ?_ | refine wIntT ?_ | refine wInt1 ?_ | refine wInt2 ?_ | refine wNext ?_)))
          refine wEqI ?_
          have ll : (((((sheetsF n acts).getD i []).map vecV ++ [DV.d (.str "spoilt")]).length : Nat) : Int) = (n : Int) + 1 := by
            rw [List.length_append, spoil i hi]
            rfl
          rw [ll, decide_eq_true rfl]
          rw [List.eq_of_mem_replicate (List.mem_of_getElem? hy)] at k2
          exact k2
        · have er : List.replicate n (DV.d (.bool true)) = (List.replicate n true).map fun k => DV.d (.bool k) := by rw [List.map_replicate]
          rw [er]
          refine ⟨_, dataL_map' _ fun k => .bool k, ?_⟩
          (repeat (with_reducible (first | refine wSeq ?_ | refine wAsg ?_ | refine wRet ?_ | refine wDrop ?_ | refine wName ?_ | (apply wVar; (case h => with_unfolding_all rfl)) | refine wC ?_ | refine wOp ?_ | refine wUn ?_ | refine wNil ?_ | refine wCons ?_ | refine wCB ?_ | refine wCall ?_ | refine wTest ?_ | refine wBool ?_ | refine wInt ?_ | refine wIfS ?_ | refine wIf ?_ | refine wAnd ?_ | refine wOr ?_ | refine wNot ?_ | refine wAndV ?_ | refine wOrV ?_ | refine wNotV ?_ | refine wTup ?_ | refine wLst ?_ | refine wLstF ?_ | refine wSl ?_ | refine wNoPart ?_ | refine wPart ?_ | refine wBM ?_ | refine wSub ?_ | refine wFor ?_ | refine wIterL ?_ | refine wRng1 ?_ | refine wZip ?_ | refine wLc ?_ | refine wLcF ?_ | refine wYes ?_ | refine wAddI ?_ | refine wIntT ?_ | refine wInt1 ?_ | refine wInt2 ?_ | refine wNext ?_)))
          refine ⟨_, List.replicate n true, rfl, ?_, ?_⟩
          · show some (((List.replicate n true).map fun k => PyData.bool k).map DV.d) = _
            rw [List.map_map]
            rfl
          refine ⟨_, rfl, ?_⟩
          rw [if_neg (by simp)]
          (repeat (with_reducible (first | refine wSeq ?_ | refine wAsg ?_ | refine wRet ?_ | refine wDrop ?_ | refine wName ?_ | (apply wVar; (case h => with_unfolding_all rfl)) | refine wC ?_ | refine wOp ?_ | refine wUn ?_ | refine wNil ?_ | refine wCons ?_ | refine wCB ?_ | refine wCall ?_ | refine wTest ?_ | refine wBool ?_ | refine wInt ?_ | refine wIfS ?_ | refine wIf ?_ | refine wAnd ?_ | refine wOr ?_ | refine wNot ?_ | refine wAndV ?_ | refine wOrV ?_ | refine wNotV ?_ | refine wTup ?_ | refine wLst ?_ | refine wLstF ?_ | refine wSl ?_ | refine wNoPart ?_ | refine wPart ?_ | refine wBM ?_ | refine wSub ?_ | refine wFor ?_ | refine wIterL ?_ | refine wRng1 ?_ | refine wZip ?_ | refine wLc ?_ | refine wLcF ?_ | refine wYes ?_ | refine wAddI ?_ | refine wIntT ?_ | refine wInt1 ?_ | refine wInt2 ?_ | refine wNext ?_)))
          -- asked again
          have f1 : put M5 pc (.lst ((sureF n acts).map vecV ++ [.d (.str "spoilt")])) ph = some (.lst (acts.map fun x => DV.d x.data)) := by rw [put_ne st.npc]; exact e1
          generalize put M5 pc (.lst ((sureF n acts).map vecV ++ [.d (.str "spoilt")])) = M6 at *
          refine ⟨n, .ref ph, acts, rfl, hn1, hn2, listOf_ref f1, hok, fun p2 r2 M7 ext7 _ _ ra2 => ?_⟩
          (repeat (with_reducible (first | refine wSeq ?_ | refine wAsg ?_ | refine wRet ?_ | refine wDrop ?_ | refine wName ?_ | (apply wVar; (case h => with_unfolding_all rfl)) | refine wC ?_ | refine wOp ?_ | refine wUn ?_ | refine wNil ?_ | refine wCons ?_ | refine wCB ?_ | refine wCall ?_ | refine wTest ?_ | refine wBool ?_ | refine wInt ?_ | refine wIfS ?_ | refine wIf ?_ | refine wAnd ?_ | refine wOr ?_ | refine wNot ?_ | refine wAndV ?_ | refine wOrV ?_ | refine wNotV ?_ | refine wTup ?_ | refine wLst ?_ | refine wLstF ?_ | refine wSl ?_ | refine wNoPart ?_ | refine wPart ?_ | refine wBM ?_ | refine wSub ?_ | refine wFor ?_ | refine wIterL ?_ | refine wRng1 ?_ | refine wZip ?_ | refine wLc ?_ | refine wLcF ?_ | refine wYes ?_ | refine wAddI ?_ | refine wIntT ?_ | refine wInt1 ?_ | refine wInt2 ?_ | refine wNext ?_)))
          refine wNe (n := 3) (m := 3) (rd_rows ra2) rfl (okD_sheets _) (okD_sheets _) (by decide) (by decide) fun k hk => ?_
          have hk' : k = false := by
            cases k
            · rfl
            · exact absurd rfl (hk.mp rfl)
          subst hk'
          refine ⟨false, rfl, ?_⟩
          rw [if_neg (by simp)]
          (repeat (with_reducible (first | refine wSeq ?_ | refine wAsg ?_ | refine wRet ?_ | refine wDrop ?_ | refine wName ?_ | (apply wVar; (case h => with_unfolding_all rfl)) | refine wC ?_ | refine wOp ?_ | refine wUn ?_ | refine wNil ?_ | refine wCons ?_ | refine wCB ?_ | refine wCall ?_ | refine wTest ?_ | refine wBool ?_ | refine wInt ?_ | refine wIfS ?_ | refine wIf ?_ | refine wAnd ?_ | refine wOr ?_ | refine wNot ?_ | refine wAndV ?_ | refine wOrV ?_ | refine wNotV ?_ | refine wTup ?_ | refine wLst ?_ | refine wLstF ?_ | refine wSl ?_ | refine wNoPart ?_ | refine wPart ?_ | refine wBM ?_ | refine wSub ?_ | refine wFor ?_ | refine wIterL ?_ | refine wRng1 ?_ | refine wZip ?_ | refine wLc ?_ | refine wLcF ?_ | refine wYes ?_ | refine wAddI ?_ | refine wIntT ?_ | refine wInt1 ?_ | refine wInt2 ?_ | refine wNext ?_)))
          have f7 := ext7 _ _ f1
          refine ⟨n, .ref ph, acts, rfl, hn1, hn2, listOf_ref f7, hok, fun p3 M8 ext8 _ hc3 => ?_⟩
          (repeat (with_reducible (first | refine wSeq ?_ | refine wAsg ?_ | refine wRet ?_ | refine wDrop ?_ | refine wName ?_ | (apply wVar; (case h => with_unfolding_all rfl)) | refine wC ?_ | refine wOp ?_ | refine wUn ?_ | refine wNil ?_ | refine wCons ?_ | refine wCB ?_ | refine wCall ?_ | refine wTest ?_ | refine wBool ?_ | refine wInt ?_ | refine wIfS ?_ | refine wIf ?_ | refine wAnd ?_ | refine wOr ?_ | refine wNot ?_ | refine wAndV ?_ | refine wOrV ?_ | refine wNotV ?_ | refine wTup ?_ | refine wLst ?_ | refine wLstF ?_ | refine wSl ?_ | refine wNoPart ?_ | refine wPart ?_ | refine wBM ?_ | refine wSub ?_ | refine wFor ?_ | refine wIterL ?_ | refine wRng1 ?_ | refine wZip ?_ | refine wLc ?_ | refine wLcF ?_ | refine wYes ?_ | refine wAddI ?_ | refine wIntT ?_ | refine wInt1 ?_ | refine wInt2 ?_ | refine wNext ?_)))
          refine wNe (n := 2) (m := 2) (rd_vecs hc3) rfl (okD_sheet _ 0) (okD_sheet _ 0) (by decide) (by decide) fun k hk => ?_
          have hk' : k = false := by
            cases k
            · rfl
            · exact absurd rfl (hk.mp rfl)
          subst hk'
          refine ⟨false, rfl, ?_⟩
          rw [if_neg (by simp)]
          (repeat (with_reducible (first | refine wSeq ?_ | refine wAsg ?_ | refine wRet ?_ | refine wDrop ?_ | refine wName ?_ | (apply wVar; (case h => with_unfolding_all rfl)) | refine wC ?_ | refine wOp ?_ | refine wUn ?_ | refine wNil ?_ | refine wCons ?_ | refine wCB ?_ | refine wCall ?_ | refine wTest ?_ | refine wBool ?_ | refine wInt ?_ | refine wIfS ?_ | refine wIf ?_ | refine wAnd ?_ | refine wOr ?_ | refine wNot ?_ | refine wAndV ?_ | refine wOrV ?_ | refine wNotV ?_ | refine wTup ?_ | refine wLst ?_ | refine wLstF ?_ | refine wSl ?_ | refine wNoPart ?_ | refine wPart ?_ | refine wBM ?_ | refine wSub ?_ | refine wFor ?_ | refine wIterL ?_ | refine wRng1 ?_ | refine wZip ?_ | refine wLc ?_ | refine wLcF ?_ | refine wYes ?_ | refine wAddI ?_ | refine wIntT ?_ | refine wInt1 ?_ | refine wInt2 ?_ | refine wNext ?_)))
          -- made
          refine ⟨_, rfl, by omega, by omega, ?_⟩
          rw [Int.toNat_natCast]
          have cutE : cutD ((acts.map Act.data).map DV.d) none (some 300) = ((acts.take 300).map Act.data).map DV.d := by
            unfold cutD
            have e300 : (300 : Int) = ((300 : Nat) : Int) := rfl
            rw [HT.sIx_none, e300, HT.sIx_nat]
            simp only [List.drop_zero, Nat.sub_zero, List.length_map, List.map_take]
            by_cases h : 300 ≤ acts.length
            · rw [Nat.min_eq_left h]
            · rw [Nat.min_eq_right (by omega), List.take_of_length_le (by simp), List.take_of_length_le (by simp; omega)]
          have hok3 : ∀ x ∈ acts.take 300, x.ok n := fun x hx => hok x (List.mem_of_mem_take hx)
          refine lcW_map (((List.range n).map fun c => nMake (acts.take 300) c).map fun n : Nat => DV.d (.int n)) (by simp [rng]) (lenOk (by simp [rng]; omega)) trivial ?_ ?_
          · intro i u y hu hy K2 k2
            obtain ⟨hi, rfl⟩ := rng_int hu
            (repeat (with_reducible (first | refine wSeq ?_ | refine wAsg ?_ | refine wRet ?_ | refine wDrop ?_ | refine wName ?_ | (apply wVar; (case h => with_unfolding_all rfl)) | refine wC ?_ | refine wOp ?_ | refine wUn ?_ | refine wNil ?_ | refine wCons ?_ | refine wCB ?_ | refine wCall ?_ | refine wTest ?_ | refine wBool ?_ | refine wInt ?_ | refine wIfS ?_ | refine wIf ?_ | refine wAnd ?_ | refine wOr ?_ | refine wNot ?_ | refine wAndV ?_ | refine wOrV ?_ | refine wNotV ?_ | refine wTup ?_ | refine wLst ?_ | refine wLstF ?_ | refine wSl ?_ | refine wNoPart ?_ | refine wPart ?_ | refine wBM ?_ | refine wSub ?_ | refine wFor ?_ | refine wIterL ?_ | refine wRng1 ?_ | refine wZip ?_ | refine wLc ?_ | refine wLcF ?_ | refine wYes ?_ | refine wAddI ?_ | refine wIntT ?_ | refine wInt1 ?_ | refine wInt2 ?_ | refine wNext ?_)))
            refine ⟨_, (acts.take 300).map Act.data, rfl, by rw [cutE, dataL_map], ?_⟩
            refine ⟨.inr ⟨_, rfl⟩, ?_⟩
            (repeat (with_reducible (first | refine wSeq ?_ | refine wAsg ?_ | refine wRet ?_ | refine wDrop ?_ | refine wName ?_ | (apply wVar; (case h => with_unfolding_all rfl)) | refine wC ?_ | refine wOp ?_ | refine wUn ?_ | refine wNil ?_ | refine wCons ?_ | refine wCB ?_ | refine wCall ?_ | refine wTest ?_ | refine wBool ?_ | refine wInt ?_ | refine wIfS ?_ | refine wIf ?_ | refine wAnd ?_ | refine wOr ?_ | refine wNot ?_ | refine wAndV ?_ | refine wOrV ?_ | refine wNotV ?_ | refine wTup ?_ | refine wLst ?_ | refine wLstF ?_ | refine wSl ?_ | refine wNoPart ?_ | refine wPart ?_ | refine wBM ?_ | refine wSub ?_ | refine wFor ?_ | refine wIterL ?_ | refine wRng1 ?_ | refine wZip ?_ | refine wLc ?_ | refine wLcF ?_ | refine wYes ?_ | refine wAddI ?_ | refine wIntT ?_ | refine wInt1 ?_ | refine wInt2 ?_ | refine wNext ?_)))
            refine ⟨lenOk (by simp), ?_⟩
            (repeat (with_reducible (first | refine wSeq ?_ | refine wAsg ?_ | refine wRet ?_ | refine wDrop ?_ | refine wName ?_ | (apply wVar; (case h => with_unfolding_all rfl)) | refine wC ?_ | refine wOp ?_ | refine wUn ?_ | refine wNil ?_ | refine wCons ?_ | refine wCB ?_ | refine wCall ?_ | refine wTest ?_ | refine wBool ?_ | refine wInt ?_ | refine wIfS ?_ | refine wIf ?_ | refine wAnd ?_ | refine wOr ?_ | refine wNot ?_ | refine wAndV ?_ | refine wOrV ?_ | refine wNotV ?_ | refine wTup ?_ | refine wLst ?_ | refine wLstF ?_ | refine wSl ?_ | refine wNoPart ?_ | refine wPart ?_ | refine wBM ?_ | refine wSub ?_ | refine wFor ?_ | refine wIterL ?_ | refine wRng1 ?_ | refine wZip ?_ | refine wLc ?_ | refine wLcF ?_ | refine wYes ?_ | refine wAddI ?_ | refine wIntT ?_ | refine wInt1 ?_ | refine wInt2 ?_ | refine wNext ?_)))
            refine ⟨_, _, .tuple [.str "make", .int (i : Nat)], rfl, rfl, rfl, okD_shaped (okD_acts (acts.take 300)) (by decide), okD_shaped (okD_act (.make i)) (by decide), ?_⟩
            have ce := cnt_make (acts.take 300) i
            rw [ce]
            rw [natV_get (by simp; exact hi)] at hy
            have hg : ((List.range n).map fun c => nMake (acts.take 300) c).getD i 0 = nMake (acts.take 300) i := by simp [List.getD, hi]
            rw [hg] at hy
            rw [← Option.some.inj hy] at k2
            exact k2
          · refine ⟨_, data_vec _, ?_⟩
            (repeat (with_reducible (first | refine wSeq ?_ | refine wAsg ?_ | refine wRet ?_ | refine wDrop ?_ | refine wName ?_ | (apply wVar; (case h => with_unfolding_all rfl)) | refine wC ?_ | refine wOp ?_ | refine wUn ?_ | refine wNil ?_ | refine wCons ?_ | refine wCB ?_ | refine wCall ?_ | refine wTest ?_ | refine wBool ?_ | refine wInt ?_ | refine wIfS ?_ | refine wIf ?_ | refine wAnd ?_ | refine wOr ?_ | refine wNot ?_ | refine wAndV ?_ | refine wOrV ?_ | refine wNotV ?_ | refine wTup ?_ | refine wLst ?_ | refine wLstF ?_ | refine wSl ?_ | refine wNoPart ?_ | refine wPart ?_ | refine wBM ?_ | refine wSub ?_ | refine wFor ?_ | refine wIterL ?_ | refine wRng1 ?_ | refine wZip ?_ | refine wLc ?_ | refine wLcF ?_ | refine wYes ?_ | refine wAddI ?_ | refine wIntT ?_ | refine wInt1 ?_ | refine wInt2 ?_ | refine wNext ?_)))
            refine wTupF ?_
            (repeat (with_reducible (first | refine wSeq ?_ | refine wAsg ?_ | refine wRet ?_ | refine wDrop ?_ | refine wName ?_ | (apply wVar; (case h => with_unfolding_all rfl)) | refine wC ?_ | refine wOp ?_ | refine wUn ?_ | refine wNil ?_ | refine wCons ?_ | refine wCB ?_ | refine wCall ?_ | refine wTest ?_ | refine wBool ?_ | refine wInt ?_ | refine wIfS ?_ | refine wIf ?_ | refine wAnd ?_ | refine wOr ?_ | refine wNot ?_ | refine wAndV ?_ | refine wOrV ?_ | refine wNotV ?_ | refine wTup ?_ | refine wLst ?_ | refine wLstF ?_ | refine wSl ?_ | refine wNoPart ?_ | refine wPart ?_ | refine wBM ?_ | refine wSub ?_ | refine wFor ?_ | refine wIterL ?_ | refine wRng1 ?_ | refine wZip ?_ | refine wLc ?_ | refine wLcF ?_ | refine wYes ?_ | refine wAddI ?_ | refine wIntT ?_ | refine wInt1 ?_ | refine wInt2 ?_ | refine wNext ?_)))
            have toN : ((n : Int) - 1).toNat = n - 1 := by omega
            have ol : (oneTo n).length = n - 1 := by simp [oneTo]
            have rl : (rng 1 (n - 1)).length = n - 1 := by simp [rng]
            with_reducible refine wRng2 ?_
            (repeat (with_reducible (first | refine wSeq ?_ | refine wAsg ?_ | refine wRet ?_ | refine wDrop ?_ | refine wName ?_ | (apply wVar; (case h => with_unfolding_all rfl)) | refine wC ?_ | refine wOp ?_ | refine wUn ?_ | refine wNil ?_ | refine wCons ?_ | refine wCB ?_ | refine wCall ?_ | refine wTest ?_ | refine wBool ?_ | refine wInt ?_ | refine wIfS ?_ | refine wIf ?_ | refine wAnd ?_ | refine wOr ?_ | refine wNot ?_ | refine wAndV ?_ | refine wOrV ?_ | refine wNotV ?_ | refine wTup ?_ | refine wLst ?_ | refine wLstF ?_ | refine wSl ?_ | refine wNoPart ?_ | refine wPart ?_ | refine wBM ?_ | refine wSub ?_ | refine wFor ?_ | refine wIterL ?_ | refine wRng1 ?_ | refine wZip ?_ | refine wLc ?_ | refine wLcF ?_ | refine wYes ?_ | refine wAddI ?_ | refine wIntT ?_ | refine wInt1 ?_ | refine wInt2 ?_ | refine wNext ?_)))
            refine ⟨_, _, rfl, by omega, ?_⟩
            rw [toN]
            refine lcW_map ((oneTo n).map fun c => DV.d (Act.tell c 0).data) (by rw [List.length_map, ol, rl]) (lenOk (by rw [rl]; omega)) trivial ?_ ?_
            · intro i u y hu hy K2 k2
              obtain ⟨hi, rfl⟩ := rng2_int hu
              rw [List.getElem?_map, oneTo_get hi] at hy
              (repeat (with_reducible (first | refine wSeq ?_ | refine wAsg ?_ | refine wRet ?_ | refine wDrop ?_ | refine wName ?_ | (apply wVar; (case h => with_unfolding_all rfl)) | refine wC ?_ | refine wOp ?_ | refine wUn ?_ | refine wNil ?_ | refine wCons ?_ | refine wCB ?_ | refine wCall ?_ | refine wTest ?_ | refine wBool ?_ | refine wInt ?_ | refine wIfS ?_ | refine wIf ?_ | refine wAnd ?_ | refine wOr ?_ | refine wNot ?_ | refine wAndV ?_ | refine wOrV ?_ | refine wNotV ?_ | refine wTup ?_ | refine wLst ?_ | refine wLstF ?_ | refine wSl ?_ | refine wNoPart ?_ | refine wPart ?_ | refine wBM ?_ | refine wSub ?_ | refine wFor ?_ | refine wIterL ?_ | refine wRng1 ?_ | refine wZip ?_ | refine wLc ?_ | refine wLcF ?_ | refine wYes ?_ | refine wAddI ?_ | refine wIntT ?_ | refine wInt1 ?_ | refine wInt2 ?_ | refine wNext ?_)))
              refine ⟨lenOk (by simp), ?_⟩
              rw [← Option.some.inj hy] at k2
              exact k2
            intro pA hpA
            with_reducible refine wLc ?_
            with_reducible refine wRng2 ?_
            (repeat (with_reducible (first | refine wSeq ?_ | refine wAsg ?_ | refine wRet ?_ | refine wDrop ?_ | refine wName ?_ | (apply wVar; (case h => with_unfolding_all rfl)) | refine wC ?_ | refine wOp ?_ | refine wUn ?_ | refine wNil ?_ | refine wCons ?_ | refine wCB ?_ | refine wCall ?_ | refine wTest ?_ | refine wBool ?_ | refine wInt ?_ | refine wIfS ?_ | refine wIf ?_ | refine wAnd ?_ | refine wOr ?_ | refine wNot ?_ | refine wAndV ?_ | refine wOrV ?_ | refine wNotV ?_ | refine wTup ?_ | refine wLst ?_ | refine wLstF ?_ | refine wSl ?_ | refine wNoPart ?_ | refine wPart ?_ | refine wBM ?_ | refine wSub ?_ | refine wFor ?_ | refine wIterL ?_ | refine wRng1 ?_ | refine wZip ?_ | refine wLc ?_ | refine wLcF ?_ | refine wYes ?_ | refine wAddI ?_ | refine wIntT ?_ | refine wInt1 ?_ | refine wInt2 ?_ | refine wNext ?_)))
            refine ⟨_, _, rfl, by omega, ?_⟩
            rw [toN]
            refine lcW_map ((oneTo n).map fun c => DV.d (Act.tell 0 c).data) (by rw [List.length_map, ol, rl]) (lenOk (by rw [rl]; omega)) trivial ?_ ?_
            · intro i u y hu hy K2 k2
              obtain ⟨hi, rfl⟩ := rng2_int hu
              rw [List.getElem?_map, oneTo_get hi] at hy
              (repeat (with_reducible (first | refine wSeq ?_ | refine wAsg ?_ | refine wRet ?_ | refine wDrop ?_ | refine wName ?_ | (apply wVar; (case h => with_unfolding_all rfl)) | refine wC ?_ | refine wOp ?_ | refine wUn ?_ | refine wNil ?_ | refine wCons ?_ | refine wCB ?_ | refine wCall ?_ | refine wTest ?_ | refine wBool ?_ | refine wInt ?_ | refine wIfS ?_ | refine wIf ?_ | refine wAnd ?_ | refine wOr ?_ | refine wNot ?_ | refine wAndV ?_ | refine wOrV ?_ | refine wNotV ?_ | refine wTup ?_ | refine wLst ?_ | refine wLstF ?_ | refine wSl ?_ | refine wNoPart ?_ | refine wPart ?_ | refine wBM ?_ | refine wSub ?_ | refine wFor ?_ | refine wIterL ?_ | refine wRng1 ?_ | refine wZip ?_ | refine wLc ?_ | refine wLcF ?_ | refine wYes ?_ | refine wAddI ?_ | refine wIntT ?_ | refine wInt1 ?_ | refine wInt2 ?_ | refine wNext ?_)))
              refine ⟨lenOk (by simp), ?_⟩
              rw [← Option.some.inj hy] at k2
              exact k2
            intro pB hpB
            have nAB : pA ≠ pB := Ext.ne hpB put_same
            refine wAddL (lstOf_ref (by rw [put_ne nAB, put_same])) (lstOf_ref put_same) (by simp [ol]; exact Nat.le_trans (by omega : _ ≤ 1000) (by decide)) fun pm hpm => ?_
            have rA : ((oneTo n).map fun c => DV.d (Act.tell c 0).data) ++ ((oneTo n).map fun c => DV.d (Act.tell 0 c).data) = (roundA n).map fun x => DV.d x.data := by
              unfold roundA
              rw [List.map_append, List.map_map, List.map_map]
              rfl
            rw [rA]
            (repeat (with_reducible (first | refine wSeq ?_ | refine wAsg ?_ | refine wRet ?_ | refine wDrop ?_ | refine wName ?_ | (apply wVar; (case h => with_unfolding_all rfl)) | refine wC ?_ | refine wOp ?_ | refine wUn ?_ | refine wNil ?_ | refine wCons ?_ | refine wCB ?_ | refine wCall ?_ | refine wTest ?_ | refine wBool ?_ | refine wInt ?_ | refine wIfS ?_ | refine wIf ?_ | refine wAnd ?_ | refine wOr ?_ | refine wNot ?_ | refine wAndV ?_ | refine wOrV ?_ | refine wNotV ?_ | refine wTup ?_ | refine wLst ?_ | refine wLstF ?_ | refine wSl ?_ | refine wNoPart ?_ | refine wPart ?_ | refine wBM ?_ | refine wSub ?_ | refine wFor ?_ | refine wIterL ?_ | refine wRng1 ?_ | refine wZip ?_ | refine wLc ?_ | refine wLcF ?_ | refine wYes ?_ | refine wAddI ?_ | refine wIntT ?_ | refine wInt1 ?_ | refine wInt2 ?_ | refine wNext ?_)))
            -- sure of all that had been made
            have lA : (roundA n).length ≤ 24 := by simp [roundA, ol]; omega
            generalize hM9 : put (put (put M8 pA _) pB _) pm (.lst ((roundA n).map fun x => DV.d x.data)) = M9
            have hpm9 : M9 pm = some (.lst ((roundA n).map fun x => DV.d x.data)) := by rw [← hM9, put_same]
            clear hM9
            refine ⟨_, rfl, fun pC hpC => ?_⟩
            rw [cutE]
            have tl : (acts.take 300).length ≤ 300 := by simp; omega
            have nC : pm ≠ pC := Ext.ne hpC hpm9
            (repeat (with_reducible (first | refine wSeq ?_ | refine wAsg ?_ | refine wRet ?_ | refine wDrop ?_ | refine wName ?_ | (apply wVar; (case h => with_unfolding_all rfl)) | refine wC ?_ | refine wOp ?_ | refine wUn ?_ | refine wNil ?_ | refine wCons ?_ | refine wCB ?_ | refine wCall ?_ | refine wTest ?_ | refine wBool ?_ | refine wInt ?_ | refine wIfS ?_ | refine wIf ?_ | refine wAnd ?_ | refine wOr ?_ | refine wNot ?_ | refine wAndV ?_ | refine wOrV ?_ | refine wNotV ?_ | refine wTup ?_ | refine wLst ?_ | refine wLstF ?_ | refine wSl ?_ | refine wNoPart ?_ | refine wPart ?_ | refine wBM ?_ | refine wSub ?_ | refine wFor ?_ | refine wIterL ?_ | refine wRng1 ?_ | refine wZip ?_ | refine wLc ?_ | refine wLcF ?_ | refine wYes ?_ | refine wAddI ?_ | refine wIntT ?_ | refine wInt1 ?_ | refine wInt2 ?_ | refine wNext ?_)))
            refine wAddL (lstOf_ref put_same) (lstOf_ref (by rw [put_ne nC]; exact hpm9)) ?_ fun pD hpD => ?_
            · simp only [List.length_map]; exact Nat.le_trans (by omega : _ ≤ 1000) (by decide)
            (repeat (with_reducible (first | refine wSeq ?_ | refine wAsg ?_ | refine wRet ?_ | refine wDrop ?_ | refine wName ?_ | (apply wVar; (case h => with_unfolding_all rfl)) | refine wC ?_ | refine wOp ?_ | refine wUn ?_ | refine wNil ?_ | refine wCons ?_ | refine wCB ?_ | refine wCall ?_ | refine wTest ?_ | refine wBool ?_ | refine wInt ?_ | refine wIfS ?_ | refine wIf ?_ | refine wAnd ?_ | refine wOr ?_ | refine wNot ?_ | refine wAndV ?_ | refine wOrV ?_ | refine wNotV ?_ | refine wTup ?_ | refine wLst ?_ | refine wLstF ?_ | refine wSl ?_ | refine wNoPart ?_ | refine wPart ?_ | refine wBM ?_ | refine wSub ?_ | refine wFor ?_ | refine wIterL ?_ | refine wRng1 ?_ | refine wZip ?_ | refine wLc ?_ | refine wLcF ?_ | refine wYes ?_ | refine wAddI ?_ | refine wIntT ?_ | refine wInt1 ?_ | refine wInt2 ?_ | refine wNext ?_)))
            have nD : pm ≠ pD := Ext.ne hpD (by rw [put_ne nC]; exact hpm9)
            refine wAddL (lstOf_ref put_same) (lstOf_ref (by rw [put_ne nD, put_ne nC]; exact hpm9)) ?_ fun pE hpE => ?_
            · simp only [List.length_map, List.length_append]; exact Nat.le_trans (by omega : _ ≤ 1000) (by decide)
            (repeat (with_reducible (first | refine wSeq ?_ | refine wAsg ?_ | refine wRet ?_ | refine wDrop ?_ | refine wName ?_ | (apply wVar; (case h => with_unfolding_all rfl)) | refine wC ?_ | refine wOp ?_ | refine wUn ?_ | refine wNil ?_ | refine wCons ?_ | refine wCB ?_ | refine wCall ?_ | refine wTest ?_ | refine wBool ?_ | refine wInt ?_ | refine wIfS ?_ | refine wIf ?_ | refine wAnd ?_ | refine wOr ?_ | refine wNot ?_ | refine wAndV ?_ | refine wOrV ?_ | refine wNotV ?_ | refine wTup ?_ | refine wLst ?_ | refine wLstF ?_ | refine wSl ?_ | refine wNoPart ?_ | refine wPart ?_ | refine wBM ?_ | refine wSub ?_ | refine wFor ?_ | refine wIterL ?_ | refine wRng1 ?_ | refine wZip ?_ | refine wLc ?_ | refine wLcF ?_ | refine wYes ?_ | refine wAddI ?_ | refine wIntT ?_ | refine wInt1 ?_ | refine wInt2 ?_ | refine wNext ?_)))
            have lE : ((((acts.take 300).map Act.data).map DV.d) ++ ((roundA n).map fun x => DV.d x.data)) ++ ((roundA n).map fun x => DV.d x.data) = (acts.take 300 ++ roundA n ++ roundA n).map fun x => DV.d x.data := by
              rw [List.map_append, List.map_append, List.map_map]
              rfl
            rw [lE]
            refine ⟨n, .ref pE, acts.take 300 ++ roundA n ++ roundA n, rfl, hn1, hn2, listOf_ref put_same, ?_, fun pS M10 extS _ hS => ?_⟩
            · intro y hy
              rcases List.mem_append.mp hy with h | h
              · rcases List.mem_append.mp h with h | h
                · exact hok3 y h
                · exact roundA_ok hn1 y h
              · exact roundA_ok hn1 y h
            rw [sure_round hn1 hok3] at hS
            (repeat (with_reducible (first | refine wSeq ?_ | refine wAsg ?_ | refine wRet ?_ | refine wDrop ?_ | refine wName ?_ | (apply wVar; (case h => with_unfolding_all rfl)) | refine wC ?_ | refine wOp ?_ | refine wUn ?_ | refine wNil ?_ | refine wCons ?_ | refine wCB ?_ | refine wCall ?_ | refine wTest ?_ | refine wBool ?_ | refine wInt ?_ | refine wIfS ?_ | refine wIf ?_ | refine wAnd ?_ | refine wOr ?_ | refine wNot ?_ | refine wAndV ?_ | refine wOrV ?_ | refine wNotV ?_ | refine wTup ?_ | refine wLst ?_ | refine wLstF ?_ | refine wSl ?_ | refine wNoPart ?_ | refine wPart ?_ | refine wBM ?_ | refine wSub ?_ | refine wFor ?_ | refine wIterL ?_ | refine wRng1 ?_ | refine wZip ?_ | refine wLc ?_ | refine wLcF ?_ | refine wYes ?_ | refine wAddI ?_ | refine wIntT ?_ | refine wInt1 ?_ | refine wInt2 ?_ | refine wNext ?_)))
            refine ⟨lenOk (by simp), fun pF hpF => ?_⟩
            (repeat (with_reducible (first | refine wSeq ?_ | refine wAsg ?_ | refine wRet ?_ | refine wDrop ?_ | refine wName ?_ | (apply wVar; (case h => with_unfolding_all rfl)) | refine wC ?_ | refine wOp ?_ | refine wUn ?_ | refine wNil ?_ | refine wCons ?_ | refine wCB ?_ | refine wCall ?_ | refine wTest ?_ | refine wBool ?_ | refine wInt ?_ | refine wIfS ?_ | refine wIf ?_ | refine wAnd ?_ | refine wOr ?_ | refine wNot ?_ | refine wAndV ?_ | refine wOrV ?_ | refine wNotV ?_ | refine wTup ?_ | refine wLst ?_ | refine wLstF ?_ | refine wSl ?_ | refine wNoPart ?_ | refine wPart ?_ | refine wBM ?_ | refine wSub ?_ | refine wFor ?_ | refine wIterL ?_ | refine wRng1 ?_ | refine wZip ?_ | refine wLc ?_ | refine wLcF ?_ | refine wYes ?_ | refine wAddI ?_ | refine wIntT ?_ | refine wInt1 ?_ | refine wInt2 ?_ | refine wNext ?_)))
            refine wMulL (lstOf_ref put_same) (by omega) fun pG hpG => ?_
            have nS1 : pS ≠ pF := Ext.ne hpF hS
            have nS2 : pS ≠ pG := Ext.ne hpG (by rw [put_ne nS1]; exact hS)
            have eR : List.replicate n (DV.d (PyData.tuple (((List.range n).map fun c => nMake (acts.take 300) c).map fun n : Nat => PyData.int n))) = (List.replicate n ((List.range n).map fun c => nMake (acts.take 300) c)).map vecV := by
              rw [List.map_replicate]
              rfl
            refine wEq (n := 2) (m := 2) (rd_vecs (s := List.replicate n ((List.range n).map fun c => nMake (acts.take 300) c)) (by rw [put_ne nS2, put_ne nS1]; exact hS)) (rd_vecs (s := List.replicate n ((List.range n).map fun c => nMake (acts.take 300) c)) (by rw [put_same, ← eR])) (okD_sheet _ 0) (okD_sheet _ 0) (by decide) (by decide) fun k hk => ?_
            rw [hk.mpr rfl]
            exact q _
end DL

set_option Elab.async false
set_option linter.all false
set_option maxRecDepth 100000
set_option maxHeartbeats 4000000
namespace DL
open PySem L2 PyProof.Rows
def top (i : Nat) : Stmt := PySem.Challenge.pw_everymerge_k66_what_all_know.main.body.getD i (.Pass ⟨0, 0, 0, 0⟩)
abbrev s_meet : Stmt := top 1
theorem sc_meet : FnScope N_meet ["first", "second"] (defScope s_meet) := ⟨rfl, rfl, rfl, by decide +kernel, rfl, by decide +kernel, by decide +kernel⟩
abbrev s_join : Stmt := top 2
theorem sc_join : FnScope N_join ["first", "second"] (defScope s_join) := ⟨rfl, rfl, rfl, by decide +kernel, rfl, by decide +kernel, by decide +kernel⟩
abbrev s_raised : Stmt := top 3
theorem sc_raised : FnScope N_raised ["vector", "copy"] (defScope s_raised) := ⟨rfl, rfl, rfl, by decide +kernel, rfl, by decide +kernel, by decide +kernel⟩
abbrev s_joined : Stmt := top 5
theorem sc_joined : FnScope N_joined ["first", "second"] (defScope s_joined) := ⟨rfl, rfl, rfl, by decide +kernel, rfl, by decide +kernel, by decide +kernel⟩
abbrev s_behind : Stmt := top 6
theorem sc_behind : FnScope N_behind ["found", "act"] (defScope s_behind) := ⟨rfl, rfl, rfl, by decide +kernel, rfl, by decide +kernel, by decide +kernel⟩
abbrev s_sheets : Stmt := top 7
theorem sc_sheets : FnScope N_sheets ["copies", "acts"] (defScope s_sheets) := ⟨rfl, rfl, rfl, by decide +kernel, rfl, by decide +kernel, by decide +kernel⟩
abbrev s_sure : Stmt := top 8
theorem sc_sure : FnScope N_sure ["copies", "acts"] (defScope s_sure) := ⟨rfl, rfl, rfl, by decide +kernel, rfl, by decide +kernel, by decide +kernel⟩
abbrev s__law_deck : Stmt := top 10
theorem sc__law_deck : FnScope N__law_deck ["script"] (defScope s__law_deck) := ⟨rfl, rfl, rfl, by decide +kernel, rfl, by decide +kernel, by decide +kernel⟩
abbrev s__law_draw : Stmt := top 11
theorem sc__law_draw : FnScope N__law_draw ["deck", "bound"] (defScope s__law_draw) := ⟨rfl, rfl, rfl, by decide +kernel, rfl, by decide +kernel, by decide +kernel⟩
abbrev s__law_join : Stmt := top 12
theorem sc__law_join : FnScope N__law_join ["one", "other"] (defScope s__law_join) := ⟨rfl, rfl, rfl, by decide +kernel, rfl, by decide +kernel, by decide +kernel⟩
abbrev s__law_deeds : Stmt := top 13
theorem sc__law_deeds : FnScope N__law_deeds ["deck", "copies", "count"] (defScope s__law_deeds) := ⟨rfl, rfl, rfl, by decide +kernel, rfl, by decide +kernel, by decide +kernel⟩
abbrev s__law_rows : Stmt := top 14
theorem sc__law_rows : FnScope N__law_rows ["copies", "deeds"] (defScope s__law_rows) := ⟨rfl, rfl, rfl, by decide +kernel, rfl, by decide +kernel, by decide +kernel⟩
abbrev s__law_vector : Stmt := top 15
theorem sc__law_vector : FnScope N__law_vector ["copies", "knows"] (defScope s__law_vector) := ⟨rfl, rfl, rfl, by decide +kernel, rfl, by decide +kernel, by decide +kernel⟩
abbrev s__law_tables : Stmt := top 16
theorem sc__law_tables : FnScope N__law_tables ["copies", "deeds"] (defScope s__law_tables) := ⟨rfl, rfl, rfl, by decide +kernel, rfl, by decide +kernel, by decide +kernel⟩
abbrev s__law_same : Stmt := top 17
theorem sc__law_same : FnScope N__law_same ["told", "due"] (defScope s__law_same) := ⟨rfl, rfl, rfl, by decide +kernel, rfl, by decide +kernel, by decide +kernel⟩
abbrev s_law : Stmt := top 18
theorem sc_law : FnScope N_law ["script"] (defScope s_law) := ⟨rfl, rfl, rfl, by decide +kernel, rfl, by decide +kernel, by decide +kernel⟩
structure Bt (mg : Str → Option Value) : Prop where
  abs : mg "abs" = none
  all : mg "all" = none
  dict : mg "dict" = none
  int : mg "int" = none
  len : mg "len" = none
  list : mg "list" = none
  max : mg "max" = none
  min : mg "min" = none
  range : mg "range" = none
  repr : mg "repr" = none
  tuple : mg "tuple" = none
  zip : mg "zip" = none
theorem b_meet {P : Program} {w : World} {K : PySem.W.Frag} {mg : Str → Option Value} {base : Heap} {f : Addr} {cdv : Value} {A : Around} {callers : List Env} {s : Shared} {H : Hp} {E : XK} (T : Bt mg) (hr : Room 0 (A.deeper (envOfC "meet" (defScope s_meet) s.heap.objs.size f cdv))) (gd : (A.deeper (envOfC "meet" (defScope s_meet) s.heap.objs.size f cdv)).guards = some []) :
    DSs (cxOf CX0 P w K mg base N_meet "meet" (defScope s_meet) f cdv A callers s H E).nox (defBody s_meet) (w_meet) := by
  have nd := sc_meet.nd
  have hu := hr.units
  have hu5 := un65 hr
  have hu6 := un66 hr
  exact (dss_one (ds_ret (de_c_tuple rfl T.tuple (da_cons (de_lcF (own := [("one", 2), ("two", 3)]) rfl nd (di_zip rfl T.zip (da_cons (dv 0) (da_cons (dv 1) da_nil))) (blkOk_by (by kernel_rfl)) (by decide) (fun _ _ _ _ _ => (dg_tup rfl (dgs_cons (dg_name (i := 2) nd rfl (by first | exact Or.inl rfl | exact Or.inr rfl)) (dgs_cons (dg_name (i := 3) nd rfl (by first | exact Or.inl rfl | exact Or.inr rfl)) dgs_nil)))) (fun _ _ _ _ _ => dts_nil) (fun _ _ _ _ _ => (de_c_min2 rfl rfl T.min (da_cons (dv 2) (da_cons (dv 3) da_nil))))) da_nil))))
theorem b_join {P : Program} {w : World} {K : PySem.W.Frag} {mg : Str → Option Value} {base : Heap} {f : Addr} {cdv : Value} {A : Around} {callers : List Env} {s : Shared} {H : Hp} {E : XK} (T : Bt mg) (hr : Room 0 (A.deeper (envOfC "join" (defScope s_join) s.heap.objs.size f cdv))) (gd : (A.deeper (envOfC "join" (defScope s_join) s.heap.objs.size f cdv)).guards = some []) :
    DSs (cxOf CX0 P w K mg base N_join "join" (defScope s_join) f cdv A callers s H E).nox (defBody s_join) (w_join) := by
  have nd := sc_join.nd
  have hu := hr.units
  have hu5 := un65 hr
  have hu6 := un66 hr
  exact (dss_one (ds_ret (de_c_tuple rfl T.tuple (da_cons (de_lcF (own := [("one", 2), ("two", 3)]) rfl nd (di_zip rfl T.zip (da_cons (dv 0) (da_cons (dv 1) da_nil))) (blkOk_by (by kernel_rfl)) (by decide) (fun _ _ _ _ _ => (dg_tup rfl (dgs_cons (dg_name (i := 2) nd rfl (by first | exact Or.inl rfl | exact Or.inr rfl)) (dgs_cons (dg_name (i := 3) nd rfl (by first | exact Or.inl rfl | exact Or.inr rfl)) dgs_nil)))) (fun _ _ _ _ _ => dts_nil) (fun _ _ _ _ _ => (de_c_max2 rfl rfl T.max (da_cons (dv 2) (da_cons (dv 3) da_nil))))) da_nil))))
theorem b_raised {P : Program} {w : World} {K : PySem.W.Frag} {mg : Str → Option Value} {base : Heap} {f : Addr} {cdv : Value} {A : Around} {callers : List Env} {s : Shared} {H : Hp} {E : XK} (T : Bt mg) (hr : Room 0 (A.deeper (envOfC "raised" (defScope s_raised) s.heap.objs.size f cdv))) (gd : (A.deeper (envOfC "raised" (defScope s_raised) s.heap.objs.size f cdv)).guards = some []) :
    DSs (cxOf CX0 P w K mg base N_raised "raised" (defScope s_raised) f cdv A callers s H E).nox (defBody s_raised) (w_raised) := by
  have nd := sc_raised.nd
  have hu := hr.units
  have hu5 := un65 hr
  have hu6 := un66 hr
  exact (dss_one (ds_ret (de_op opd_add (de_op opd_add (de_slice sld_tup (dv 0) do_none (do_some (dv 1))) (de_tup (da_cons (de_op opd_add (de_ix ixd_seq (dv 0) (dv 1)) de_int) da_nil))) (de_slice sld_tup (dv 0) (do_some (de_op opd_add (dv 1) de_int)) do_none))))
theorem b_joined {P : Program} {w : World} {K : PySem.W.Frag} {mg : Str → Option Value} {base : Heap} {f : Addr} {cdv : Value} {A : Around} {callers : List Env} {s : Shared} {H : Hp} {E : XK} (T : Bt mg) (hr : Room 1 (A.deeper (envOfC "joined" (defScope s_joined) s.heap.objs.size f cdv))) (gd : (A.deeper (envOfC "joined" (defScope s_joined) s.heap.objs.size f cdv)).guards = some []) (C_join : Fn P w K mg base "join" 1 ["first", "second"] [] sp_join) :
    DSs (cxOf CX0 P w K mg base N_joined "joined" (defScope s_joined) f cdv A callers s H E).nox (defBody s_joined) (w_joined) := by
  have nd := sc_joined.nd
  have hu := hr.units
  have hu5 := un65 hr
  have hu6 := un66 hr
  exact (dss_one (ds_ret (de_lc (own := [("one", 2), ("other", 3)]) rfl nd (di_zip rfl T.zip (da_cons (dv 0) (da_cons (dv 1) da_nil))) (blkOk_by (by kernel_rfl)) (by decide) (fun _ _ _ _ _ => (dg_tup rfl (dgs_cons (dg_name (i := 2) nd rfl (by first | exact Or.inl rfl | exact Or.inr rfl)) (dgs_cons (dg_name (i := 3) nd rfl (by first | exact Or.inl rfl | exact Or.inr rfl)) dgs_nil)))) (fun _ _ _ _ _ => dts_nil) (fun _ _ _ _ _ => (de_fn C_join (hr.mono (by decide)) gd rfl (da_cons (dv 2) (da_cons (dv 3) da_nil)))))))
theorem b_behind {P : Program} {w : World} {K : PySem.W.Frag} {mg : Str → Option Value} {base : Heap} {f : Addr} {cdv : Value} {A : Around} {callers : List Env} {s : Shared} {H : Hp} {E : XK} (T : Bt mg) (hr : Room 2 (A.deeper (envOfC "behind" (defScope s_behind) s.heap.objs.size f cdv))) (gd : (A.deeper (envOfC "behind" (defScope s_behind) s.heap.objs.size f cdv)).guards = some []) (C_join : Fn P w K mg base "join" 1 ["first", "second"] [] sp_join) (C_joined : Fn P w K mg base "joined" 2 ["first", "second"] [] sp_joined) (C_raised : Fn P w K mg base "raised" 1 ["vector", "copy"] [] sp_raised) :
    DSs (cxOf CX0 P w K mg base N_behind "behind" (defScope s_behind) f cdv A callers s H E).nox (defBody s_behind) (w_behind) := by
  have nd := sc_behind.nd
  have hu := hr.units
  have hu5 := un65 hr
  have hu6 := un66 hr
  exact (dss_cons (ds_set (i := 0) nd rfl (by first | exact Or.inl rfl | exact Or.inr rfl) (de_c_list rfl T.list (da_cons (dv 0) da_nil)))
  (dss_cons (ds_set (i := 2) nd rfl (by first | exact Or.inl rfl | exact Or.inr rfl) (de_ix ixd_seq (dv 1) de_int))
  (dss_cons (ds_if (dt_cmp (opd_eqE hu) (de_ix ixd_seq (dv 1) de_int) de_str) (dss_cons (ds_set (i := 3) nd rfl (by first | exact Or.inl rfl | exact Or.inr rfl) (de_c_list rfl T.list (da_cons (de_ix ixd_seq (dv 0) (dv 2)) da_nil)))
  (dss_cons (ds_asg (de_fn C_raised (hr.mono (by decide)) gd rfl (da_cons (de_ix ixd_seq (dv 3) (dv 2)) (da_cons (dv 2) da_nil))) (dg_sub (dv 3) (dv 2) setd_list))
  (dss_cons (ds_asg (dv 3) (dg_sub (dv 0) (dv 2) setd_list))
  (dss_one (ds_ret (dv 0)))))) dss_nil)
  (dss_cons (ds_set (i := 4) nd rfl (by first | exact Or.inl rfl | exact Or.inr rfl) (de_ix ixd_seq (dv 1) de_int))
  (dss_cons (ds_set (i := 5) nd rfl (by first | exact Or.inl rfl | exact Or.inr rfl) (de_fn C_joined (hr.mono (by decide)) gd rfl (da_cons (de_ix ixd_seq (dv 0) (dv 2)) (da_cons (de_ix ixd_seq (dv 0) (dv 4)) da_nil))))
  (dss_cons (ds_set (i := 6) nd rfl (by first | exact Or.inl rfl | exact Or.inr rfl) (de_fn C_join (hr.mono (by decide)) gd rfl (da_cons (de_ix ixd_seq (de_ix ixd_seq (dv 0) (dv 2)) (dv 2)) (da_cons (de_ix ixd_seq (de_ix ixd_seq (dv 0) (dv 4)) (dv 4)) da_nil))))
  (dss_cons (ds_asg (dv 6) (dg_sub (dv 5) (dv 4) setd_list))
  (dss_cons (ds_if (dt_cmp (opd_eqE hu) (de_ix ixd_seq (dv 1) de_int) de_str) (dss_cons (ds_asg (dv 6) (dg_sub (dv 5) (dv 2) setd_list))
  (dss_one (ds_asg (de_c_list rfl T.list (da_cons (dv 5) da_nil)) (dg_sub (dv 0) (dv 2) setd_list)))) dss_nil)
  (dss_cons (ds_asg (dv 5) (dg_sub (dv 0) (dv 4) setd_list))
  (dss_one (ds_ret (dv 0))))))))))))
theorem b_sheets {P : Program} {w : World} {K : PySem.W.Frag} {mg : Str → Option Value} {base : Heap} {f : Addr} {cdv : Value} {A : Around} {callers : List Env} {s : Shared} {H : Hp} {E : XK} (T : Bt mg) (hr : Room 3 (A.deeper (envOfC "sheets" (defScope s_sheets) s.heap.objs.size f cdv))) (gd : (A.deeper (envOfC "sheets" (defScope s_sheets) s.heap.objs.size f cdv)).guards = some []) (C_behind : Fn P w K mg base "behind" 3 ["found", "act"] [] sp_behind) :
    DSs (cxOf CX0 P w K mg base N_sheets "sheets" (defScope s_sheets) f cdv A callers s H E).nox (defBody s_sheets) (w_sheets) := by
  have nd := sc_sheets.nd
  have hu := hr.units
  have hu5 := un65 hr
  have hu6 := un66 hr
  exact (dss_cons (ds_setLc (i := 2) (own := [("_", 4)]) rfl nd rfl rfl (sw_true rfl rfl rfl (by decide +kernel)) (di_range1 rfl T.range (da_cons (dv 0) da_nil)) (blkOk_by (by kernel_rfl)) (by decide) (fun _ _ _ _ _ => (dg_name (i := 4) nd rfl (by first | exact Or.inl rfl | exact Or.inr rfl))) (fun _ _ _ _ _ => dts_nil) (fun _ _ _ _ _ => (de_lc (own := [("_", 4)]) rfl nd (di_range1 rfl T.range (da_cons (dv 0) da_nil)) (blkOk_by (by kernel_rfl)) (by decide) (fun _ _ _ _ _ => (dg_name (i := 4) nd rfl (by first | exact Or.inl rfl | exact Or.inr rfl))) (fun _ _ _ _ _ => dts_nil) (fun _ _ _ _ _ => (de_op opd_mulE (de_tup (da_cons de_int da_nil)) (dv 0))))))
  (dss_cons (ds_for PassesOwn.never rfl (di_list (dv 1)) (dg_name (i := 3) nd rfl (by first | exact Or.inl rfl | exact Or.inr rfl)) (dss_one (ds_set (i := 2) nd rfl (by first | exact Or.inl rfl | exact Or.inr rfl) (de_fn C_behind (hr.mono (by decide)) gd rfl (da_cons (dv 2) (da_cons (dv 3) da_nil))))))
  (dss_one (ds_ret (dv 2)))))
theorem b_sure {P : Program} {w : World} {K : PySem.W.Frag} {mg : Str → Option Value} {base : Heap} {f : Addr} {cdv : Value} {A : Around} {callers : List Env} {s : Shared} {H : Hp} {E : XK} (T : Bt mg) (hr : Room 4 (A.deeper (envOfC "sure" (defScope s_sure) s.heap.objs.size f cdv))) (gd : (A.deeper (envOfC "sure" (defScope s_sure) s.heap.objs.size f cdv)).guards = some []) (C_meet : Fn P w K mg base "meet" 1 ["first", "second"] [] sp_meet) (C_sheets : Fn P w K mg base "sheets" 4 ["copies", "acts"] [] sp_sheets) :
    DSs (cxOf CX0 P w K mg base N_sure "sure" (defScope s_sure) f cdv A callers s H E).nox (defBody s_sure) (w_sure) := by
  have nd := sc_sure.nd
  have hu := hr.units
  have hu5 := un65 hr
  have hu6 := un66 hr
  exact (dss_cons (ds_set (i := 2) nd rfl (by first | exact Or.inl rfl | exact Or.inr rfl) (de_lst da_nil))
  (dss_cons (ds_for PassesOwn.never rfl (di_list (de_fn C_sheets (hr.mono (by decide)) gd rfl (da_cons (dv 0) (da_cons (dv 1) da_nil)))) (dg_name (i := 3) nd rfl (by first | exact Or.inl rfl | exact Or.inr rfl)) (dss_cons (ds_set (i := 4) nd rfl (by first | exact Or.inl rfl | exact Or.inr rfl) (de_ix ixd_seq (dv 3) de_int))
  (dss_cons (ds_for PassesOwn.never rfl (di_list (de_slice sld_listF (dv 3) (do_some de_int) do_none)) (dg_name (i := 5) nd rfl (by first | exact Or.inl rfl | exact Or.inr rfl)) (dss_one (ds_set (i := 4) nd rfl (by first | exact Or.inl rfl | exact Or.inr rfl) (de_fn C_meet (hr.mono (by decide)) gd rfl (da_cons (dv 4) (da_cons (dv 5) da_nil))))))
  (dss_one (ds_expr (de_lappend (dv 2) (da_cons (dv 4) da_nil)))))))
  (dss_one (ds_ret (dv 2)))))
theorem b__law_deck {P : Program} {w : World} {K : PySem.W.Frag} {mg : Str → Option Value} {base : Heap} {f : Addr} {cdv : Value} {A : Around} {callers : List Env} {s : Shared} {H : Hp} {E : XK} (T : Bt mg) (hr : Room 0 (A.deeper (envOfC "_law_deck" (defScope s__law_deck) s.heap.objs.size f cdv))) (gd : (A.deeper (envOfC "_law_deck" (defScope s__law_deck) s.heap.objs.size f cdv)).guards = some []) :
    DSs (cxOf CX0 P w K mg base N__law_deck "_law_deck" (defScope s__law_deck) f cdv A callers s H E).nox (defBody s__law_deck) (w__law_deck K) := by
  have nd := sc__law_deck.nd
  have hu := hr.units
  have hu5 := un65 hr
  have hu6 := un66 hr
  exact (dss_cons (ds_set (i := 1) nd rfl (by first | exact Or.inl rfl | exact Or.inr rfl) de_int)
  (dss_cons (ds_for PassesOwn.never rfl (di_script (dv 0)) (dg_name (i := 2) nd rfl (by first | exact Or.inl rfl | exact Or.inr rfl)) (dss_one (ds_set (i := 1) nd rfl (by first | exact Or.inl rfl | exact Or.inr rfl) (de_op opd_mod (de_c_int rfl T.int (da_cons (de_op opd_add (de_op opd_mulE (dv 1) de_int) (dv 2)) da_nil)) de_int))))
  (dss_one (ds_ret (de_lst (da_cons de_int (da_cons de_int (da_cons (dv 1) (da_cons (de_c_listS rfl T.list (da_cons (dv 0) da_nil)) (da_cons de_int da_nil))))))))))
theorem b__law_draw {P : Program} {w : World} {K : PySem.W.Frag} {mg : Str → Option Value} {base : Heap} {f : Addr} {cdv : Value} {A : Around} {callers : List Env} {s : Shared} {H : Hp} {E : XK} (T : Bt mg) (hr : Room 0 (A.deeper (envOfC "_law_draw" (defScope s__law_draw) s.heap.objs.size f cdv))) (gd : (A.deeper (envOfC "_law_draw" (defScope s__law_draw) s.heap.objs.size f cdv)).guards = some []) :
    DSs (cxOf CX0 P w K mg base N__law_draw "_law_draw" (defScope s__law_draw) f cdv A callers s H E).nox (defBody s__law_draw) (w__law_draw) := by
  have nd := sc__law_draw.nd
  have hu := hr.units
  have hu5 := un65 hr
  have hu6 := un66 hr
  exact (dss_cons (ds_if (PW.pt (dw_and (dt_cmp (opd_eqE hu) (de_ix ixd_seq (dv 0) de_int) de_int) (dw_and1 (dt_cmp opd_lt (de_ix ixd_seq (dv 0) de_int) (de_c_len rfl T.len (da_cons (de_ix ixd_seq (dv 0) de_int) da_nil)))))) (dss_cons (ds_asg (de_c_abs rfl T.abs (da_cons (de_ix ixd_seq (de_ix ixd_seq (dv 0) de_int) (de_ix ixd_seq (dv 0) de_int)) da_nil)) (dg_sub (dv 0) de_int setd_list))
  (dss_one (ds_asg (de_op opd_add (de_ix ixd_seq (dv 0) de_int) de_int) (dg_sub (dv 0) de_int setd_list)))) (dss_one (ds_if (dt_cmp (opd_eqE hu) (de_ix ixd_seq (dv 0) de_int) de_int) (dss_cons (ds_asg (de_op opd_add (de_ix ixd_seq (dv 0) de_int) de_int) (dg_sub (dv 0) de_int setd_list))
  (dss_cons (ds_set (i := 2) nd rfl (by first | exact Or.inl rfl | exact Or.inr rfl) (de_op opd_mod (de_c_int rfl T.int (da_cons (de_op opd_add (de_op opd_add (de_op opd_mulE (de_ix ixd_seq (dv 0) de_int) de_int) (de_op opd_mulE (de_ix ixd_seq (dv 0) de_int) de_int)) de_int) da_nil)) de_int))
  (dss_cons (ds_set (i := 2) nd rfl (by first | exact Or.inl rfl | exact Or.inr rfl) (de_op opd_mod (de_c_int rfl T.int (da_cons (de_op opd_add (de_op opd_add (de_op opd_mulE (dv 2) (dv 2)) (de_op opd_mulE de_int (de_ix ixd_seq (dv 0) de_int))) de_int) da_nil)) de_int))
  (dss_cons (ds_set (i := 2) nd rfl (by first | exact Or.inl rfl | exact Or.inr rfl) (de_op opd_mod (de_c_int rfl T.int (da_cons (de_op opd_add (de_op opd_add (de_op opd_mulE (dv 2) (dv 2)) (de_op opd_mulE de_int (de_ix ixd_seq (dv 0) de_int))) (de_ix ixd_seq (dv 0) de_int)) da_nil)) de_int))
  (dss_one (ds_asg (de_op opd_fdiv (dv 2) de_int) (dg_sub (dv 0) de_int setd_list))))))) dss_nil)))
  (dss_cons (ds_set (i := 3) nd rfl (by first | exact Or.inl rfl | exact Or.inr rfl) (de_op opd_mod (de_c_int rfl T.int (da_cons (de_ix ixd_seq (dv 0) de_int) da_nil)) (dv 1)))
  (dss_cons (ds_asg (de_op opd_fdiv (de_ix ixd_seq (dv 0) de_int) (dv 1)) (dg_sub (dv 0) de_int setd_list))
  (dss_one (ds_ret (dv 3))))))
theorem b__law_join {P : Program} {w : World} {K : PySem.W.Frag} {mg : Str → Option Value} {base : Heap} {f : Addr} {cdv : Value} {A : Around} {callers : List Env} {s : Shared} {H : Hp} {E : XK} (T : Bt mg) (hr : Room 0 (A.deeper (envOfC "_law_join" (defScope s__law_join) s.heap.objs.size f cdv))) (gd : (A.deeper (envOfC "_law_join" (defScope s__law_join) s.heap.objs.size f cdv)).guards = some []) :
    DSs (cxOf CX0 P w K mg base N__law_join "_law_join" (defScope s__law_join) f cdv A callers s H E).nox (defBody s__law_join) (w__law_join) := by
  have nd := sc__law_join.nd
  have hu := hr.units
  have hu5 := un65 hr
  have hu6 := un66 hr
  exact (dss_one (ds_ret (de_c_tuple rfl T.tuple (da_cons (de_lcF (own := [("k", 2)]) rfl nd (di_range1 rfl T.range (da_cons (de_c_len rfl T.len (da_cons (dv 0) da_nil)) da_nil)) (blkOk_by (by kernel_rfl)) (by decide) (fun _ _ _ _ _ => (dg_name (i := 2) nd rfl (by first | exact Or.inl rfl | exact Or.inr rfl))) (fun _ _ _ _ _ => dts_nil) (fun _ _ _ _ _ => (de_c_max2 rfl rfl T.max (da_cons (de_ix ixd_seq (dv 0) (dv 2)) (da_cons (de_ix ixd_seq (dv 1) (dv 2)) da_nil))))) da_nil))))
theorem b__law_deeds {P : Program} {w : World} {K : PySem.W.Frag} {mg : Str → Option Value} {base : Heap} {f : Addr} {cdv : Value} {A : Around} {callers : List Env} {s : Shared} {H : Hp} {E : XK} (T : Bt mg) (hr : Room 1 (A.deeper (envOfC "_law_deeds" (defScope s__law_deeds) s.heap.objs.size f cdv))) (gd : (A.deeper (envOfC "_law_deeds" (defScope s__law_deeds) s.heap.objs.size f cdv)).guards = some []) (C__law_draw : Fn P w K mg base "_law_draw" 1 ["deck", "bound"] [] sp__law_draw) :
    DSs (cxOf CX0 P w K mg base N__law_deeds "_law_deeds" (defScope s__law_deeds) f cdv A callers s H E).nox (defBody s__law_deeds) (w__law_deeds) := by
  have nd := sc__law_deeds.nd
  have hu := hr.units
  have hu5 := un65 hr
  have hu6 := un66 hr
  exact (dss_cons (ds_set (i := 3) nd rfl (by first | exact Or.inl rfl | exact Or.inr rfl) (de_lst da_nil))
  (dss_cons (ds_set (i := 4) nd rfl (by first | exact Or.inl rfl | exact Or.inr rfl) (de_fn C__law_draw (hr.mono (by decide)) gd rfl (da_cons (dv 0) (da_cons de_int da_nil))))
  (dss_cons (ds_for PassesOwn.never rfl (di_range1 rfl T.range (da_cons (dv 2) da_nil)) (dg_name (i := 5) nd rfl (by first | exact Or.inl rfl | exact Or.inr rfl)) (dss_cons (ds_set (i := 6) nd rfl (by first | exact Or.inl rfl | exact Or.inr rfl) (de_fn C__law_draw (hr.mono (by decide)) gd rfl (da_cons (dv 0) (da_cons (dv 1) da_nil))))
  (dss_cons (ds_set (i := 7) nd rfl (by first | exact Or.inl rfl | exact Or.inr rfl) (de_fn C__law_draw (hr.mono (by decide)) gd rfl (da_cons (dv 0) (da_cons (dv 1) da_nil))))
  (dss_cons (ds_if (dt_cmp (opd_eqE hu) (dv 4) de_int) (dss_one (ds_set (i := 7) nd rfl (by first | exact Or.inl rfl | exact Or.inr rfl) (de_op opd_mod (de_c_int rfl T.int (da_cons (de_op opd_add (dv 6) de_int) da_nil)) (dv 1)))) dss_nil)
  (dss_cons (ds_set (i := 8) nd rfl (by first | exact Or.inl rfl | exact Or.inr rfl) (de_fn C__law_draw (hr.mono (by decide)) gd rfl (da_cons (dv 0) (da_cons de_int da_nil))))
  (dss_one (ds_if (PW.pt (dw_or (dt_cmp (opd_eqE hu) (dv 8) de_int) (dw_or1 (dt_cmp (opd_eqE hu) (dv 6) (dv 7))))) (dss_one (ds_expr (de_lappend (dv 3) (da_cons (de_tup (da_cons de_str (da_cons (dv 6) da_nil))) da_nil)))) (dss_one (ds_expr (de_lappend (dv 3) (da_cons (de_tup (da_cons (de_ix ixd_seq (de_lstF (da_cons de_str (da_cons de_str da_nil))) (de_op opd_mod (de_c_int rfl T.int (da_cons (dv 8) da_nil)) de_int)) (da_cons (dv 6) (da_cons (dv 7) da_nil)))) da_nil)))))))))))
  (dss_ghost (gFrz_ok 3) (dss_one (ds_ret (dv 3)))))))
theorem b__law_rows {P : Program} {w : World} {K : PySem.W.Frag} {mg : Str → Option Value} {base : Heap} {f : Addr} {cdv : Value} {A : Around} {callers : List Env} {s : Shared} {H : Hp} {E : XK} (T : Bt mg) (hr : Room 0 (A.deeper (envOfC "_law_rows" (defScope s__law_rows) s.heap.objs.size f cdv))) (gd : (A.deeper (envOfC "_law_rows" (defScope s__law_rows) s.heap.objs.size f cdv)).guards = some []) :
    DSs (cxOf CX0 P w K mg base N__law_rows "_law_rows" (defScope s__law_rows) f cdv A callers s H E).nox (defBody s__law_rows) (w__law_rows w) := by
  have nd := sc__law_rows.nd
  have hu := hr.units
  have hu5 := un65 hr
  have hu6 := un66 hr
  exact (dss_cons (ds_set (i := 2) nd rfl (by first | exact Or.inl rfl | exact Or.inr rfl) (de_lst (da_cons (de_lc (own := [("copy", 6)]) rfl nd (di_range1 rfl T.range (da_cons (dv 0) da_nil)) (blkOk_by (by kernel_rfl)) (by decide) (fun _ _ _ _ _ => (dg_name (i := 6) nd rfl (by first | exact Or.inl rfl | exact Or.inr rfl))) (fun _ _ _ _ _ => dts_nil) (fun _ _ _ _ _ => de_dnewN)) da_nil)))
  (dss_cons (ds_set (i := 3) nd rfl (by first | exact Or.inl rfl | exact Or.inr rfl) (de_op opd_mulE (de_lst (da_cons de_int da_nil)) (dv 0)))
  (dss_cons (ds_for PassesOwn.never rfl (di_list (dv 1)) (dg_name (i := 4) nd rfl (by first | exact Or.inl rfl | exact Or.inr rfl)) (dss_cons (ds_setLc (i := 5) (own := [("row", 7)]) rfl nd rfl rfl (sw_true rfl rfl rfl (by decide +kernel)) (di_list (de_ix ixd_seq (dv 2) (de_un und_neg de_int))) (blkOk_by (by kernel_rfl)) (by decide) (fun _ _ _ _ _ => (dg_name (i := 7) nd rfl (by first | exact Or.inl rfl | exact Or.inr rfl))) (fun _ _ _ _ _ => dts_nil) (fun _ _ _ _ _ => (de_c_dictN hu rfl T.dict (da_cons (dv 7) da_nil))))
  (dss_cons (ds_if (dt_cmp (opd_eqE hu) (de_ix ixd_seq (dv 4) de_int) de_str) (dss_cons (ds_asg (de_op opd_add (de_ix ixd_seq (dv 3) (de_ix ixd_seq (dv 4) de_int)) de_int) (dg_sub (dv 3) (de_ix ixd_seq (dv 4) de_int) setd_list))
  (dss_one (ds_asg de_bl (dg_sub (de_ix ixd_seq (dv 5) (de_ix ixd_seq (dv 4) de_int)) (de_tup (da_cons (de_ix ixd_seq (dv 4) de_int) (da_cons (de_ix ixd_seq (dv 3) (de_ix ixd_seq (dv 4) de_int)) da_nil))) (setd_dN hu))))) (dss_one (ds_expr (de_dupdate hu (de_ix ixd_seq (dv 5) (de_ix ixd_seq (dv 4) de_int)) (da_cons (de_ix ixd_seq (de_ix ixd_seq (dv 2) (de_un und_neg de_int)) (de_ix ixd_seq (dv 4) de_int)) da_nil)))))
  (dss_cons (ds_if (dt_cmp (opd_eqE hu) (de_ix ixd_seq (dv 4) de_int) de_str) (dss_one (ds_expr (de_dupdate hu (de_ix ixd_seq (dv 5) (de_ix ixd_seq (dv 4) de_int)) (da_cons (de_ix ixd_seq (de_ix ixd_seq (dv 2) (de_un und_neg de_int)) (de_ix ixd_seq (dv 4) de_int)) da_nil)))) dss_nil)
  (dss_one (ds_expr (de_lappend (dv 2) (da_cons (dv 5) da_nil))))))))
  (dss_one (ds_ret (dv 2))))))
theorem b__law_vector {P : Program} {w : World} {K : PySem.W.Frag} {mg : Str → Option Value} {base : Heap} {f : Addr} {cdv : Value} {A : Around} {callers : List Env} {s : Shared} {H : Hp} {E : XK} (T : Bt mg) (hr : Room 0 (A.deeper (envOfC "_law_vector" (defScope s__law_vector) s.heap.objs.size f cdv))) (gd : (A.deeper (envOfC "_law_vector" (defScope s__law_vector) s.heap.objs.size f cdv)).guards = some []) :
    DSs (cxOf CX0 P w K mg base N__law_vector "_law_vector" (defScope s__law_vector) f cdv A callers s H E).nox (defBody s__law_vector) (w__law_vector) := by
  have nd := sc__law_vector.nd
  have hu := hr.units
  have hu5 := un65 hr
  have hu6 := un66 hr
  exact (dss_one (ds_ret (de_c_tuple rfl T.tuple (da_cons (de_lcF (own := [("copy", 2)]) rfl nd (di_range1 rfl T.range (da_cons (dv 0) da_nil)) (blkOk_by (by kernel_rfl)) (by decide) (fun _ _ _ _ _ => (dg_name (i := 2) nd rfl (by first | exact Or.inl rfl | exact Or.inr rfl))) (fun _ _ _ _ _ => dts_nil) (fun _ _ _ _ _ => (de_c_len rfl T.len (da_cons (de_lock (de_lcF (own := [("one", 3)]) rfl nd (di_keysN (dv 1)) (blkOk_by (by kernel_rfl)) (by decide) (fun _ _ _ _ _ => (dg_name (i := 3) nd rfl (by first | exact Or.inl rfl | exact Or.inr rfl))) (fun _ _ _ _ _ => (dts_one (dt_cmp (opd_eqE hu) (de_ix ixd_seq (dv 3) de_int) (dv 2)))) (fun _ _ _ _ _ => (dv 3)))) da_nil)))) da_nil))))
theorem b__law_tables {P : Program} {w : World} {K : PySem.W.Frag} {mg : Str → Option Value} {base : Heap} {f : Addr} {cdv : Value} {A : Around} {callers : List Env} {s : Shared} {H : Hp} {E : XK} (T : Bt mg) (hr : Room 0 (A.deeper (envOfC "_law_tables" (defScope s__law_tables) s.heap.objs.size f cdv))) (gd : (A.deeper (envOfC "_law_tables" (defScope s__law_tables) s.heap.objs.size f cdv)).guards = some []) :
    DSs (cxOf CX0 P w K mg base N__law_tables "_law_tables" (defScope s__law_tables) f cdv A callers s H E).nox (defBody s__law_tables) (w__law_tables w) := by
  have nd := sc__law_tables.nd
  have hu := hr.units
  have hu5 := un65 hr
  have hu6 := un66 hr
  exact (dss_cons (ds_setLc (i := 2) (own := [("copy", 9)]) rfl nd rfl rfl (sw_true rfl rfl rfl (by decide +kernel)) (di_range1 rfl T.range (da_cons (dv 0) da_nil)) (blkOk_by (by kernel_rfl)) (by decide) (fun _ _ _ _ _ => (dg_name (i := 9) nd rfl (by first | exact Or.inl rfl | exact Or.inr rfl))) (fun _ _ _ _ _ => dts_nil) (fun _ _ _ _ _ => (de_lc (own := [("other", 8)]) rfl nd (di_range1 rfl T.range (da_cons (dv 0) da_nil)) (blkOk_by (by kernel_rfl)) (by decide) (fun _ _ _ _ _ => (dg_name (i := 8) nd rfl (by first | exact Or.inl rfl | exact Or.inr rfl))) (fun _ _ _ _ _ => dts_nil) (fun _ _ _ _ _ => de_dnewN))))
  (dss_cons (ds_set (i := 3) nd rfl (by first | exact Or.inl rfl | exact Or.inr rfl) (de_op opd_mulE (de_lst (da_cons de_int da_nil)) (dv 0)))
  (dss_cons (ds_for PassesOwn.never rfl (di_list (dv 1)) (dg_name (i := 4) nd rfl (by first | exact Or.inl rfl | exact Or.inr rfl)) (dss_one (ds_if (dt_cmp (opd_eqE hu) (de_ix ixd_seq (dv 4) de_int) de_str) (dss_cons (ds_asg (de_op opd_add (de_ix ixd_seq (dv 3) (de_ix ixd_seq (dv 4) de_int)) de_int) (dg_sub (dv 3) (de_ix ixd_seq (dv 4) de_int) setd_list))
  (dss_one (ds_asg de_bl (dg_sub (de_ix ixd_seq (de_ix ixd_seq (dv 2) (de_ix ixd_seq (dv 4) de_int)) (de_ix ixd_seq (dv 4) de_int)) (de_tup (da_cons (de_ix ixd_seq (dv 4) de_int) (da_cons (de_ix ixd_seq (dv 3) (de_ix ixd_seq (dv 4) de_int)) da_nil))) (setd_dN hu))))) (dss_cons (ds_setLc (i := 5) (own := [("row", 10)]) rfl nd rfl rfl (sw_true rfl rfl rfl (by decide +kernel)) (di_list (dv 2)) (blkOk_by (by kernel_rfl)) (by decide) (fun _ _ _ _ _ => (dg_name (i := 10) nd rfl (by first | exact Or.inl rfl | exact Or.inr rfl))) (fun _ _ _ _ _ => dts_nil) (fun _ _ _ _ _ => (de_lc (own := [("knows", 11)]) rfl nd (di_list (dv 10)) (blkOk_by (by kernel_rfl)) (by decide) (fun _ _ _ _ _ => (dg_name (i := 11) nd rfl (by first | exact Or.inl rfl | exact Or.inr rfl))) (fun _ _ _ _ _ => dts_nil) (fun _ _ _ _ _ => (de_c_dictN hu rfl T.dict (da_cons (dv 11) da_nil))))))
  (dss_cons (ds_set (i := 6) nd rfl (by first | exact Or.inl rfl | exact Or.inr rfl) (de_lst (da_cons (de_tup (da_cons (de_ix ixd_seq (dv 4) de_int) (da_cons (de_ix ixd_seq (dv 4) de_int) da_nil))) da_nil)))
  (dss_cons (ds_if (dt_cmp (opd_eqE hu) (de_ix ixd_seq (dv 4) de_int) de_str) (dss_one (ds_expr (de_lappend (dv 6) (da_cons (de_tup (da_cons (de_ix ixd_seq (dv 4) de_int) (da_cons (de_ix ixd_seq (dv 4) de_int) da_nil))) da_nil)))) dss_nil)
  (dss_cons (ds_for PassesOwn.never rfl (di_list (dv 6)) (dg_tup rfl (dgs_cons (dg_name (i := 7) nd rfl (by first | exact Or.inl rfl | exact Or.inr rfl)) (dgs_cons (dg_name (i := 8) nd rfl (by first | exact Or.inl rfl | exact Or.inr rfl)) dgs_nil))) (dss_cons (ds_for PassesOwn.never rfl (di_range1 rfl T.range (da_cons (dv 0) da_nil)) (dg_name (i := 9) nd rfl (by first | exact Or.inl rfl | exact Or.inr rfl)) (dss_one (ds_expr (de_dupdate hu (de_ix ixd_seq (de_ix ixd_seq (dv 2) (dv 8)) (dv 9)) (da_cons (de_ix ixd_seq (de_ix ixd_seq (dv 5) (dv 7)) (dv 9)) da_nil)))))
  (dss_one (ds_expr (de_dupdate hu (de_ix ixd_seq (de_ix ixd_seq (dv 2) (dv 8)) (dv 8)) (da_cons (de_ix ixd_seq (de_ix ixd_seq (dv 5) (dv 7)) (dv 7)) da_nil))))))
  (dss_one (ds_for PassesOwn.never rfl (di_list (dv 6)) (dg_tup rfl (dgs_cons (dg_name (i := 7) nd rfl (by first | exact Or.inl rfl | exact Or.inr rfl)) (dgs_cons (dg_name (i := 8) nd rfl (by first | exact Or.inl rfl | exact Or.inr rfl)) dgs_nil))) (dss_one (ds_if (dt_cmp (opd_eqE hu) (de_ix ixd_seq (dv 4) de_int) de_str) (dss_one (ds_expr (de_dupdate hu (de_ix ixd_seq (de_ix ixd_seq (dv 2) (dv 8)) (dv 7)) (da_cons (de_ix ixd_seq (de_ix ixd_seq (dv 5) (dv 8)) (dv 8)) da_nil)))) dss_nil)))))))))))
  (dss_one (ds_ret (dv 2))))))
theorem b__law_same {P : Program} {w : World} {K : PySem.W.Frag} {mg : Str → Option Value} {base : Heap} {f : Addr} {cdv : Value} {A : Around} {callers : List Env} {s : Shared} {H : Hp} {E : XK} (T : Bt mg) (hr : Room 0 (A.deeper (envOfC "_law_same" (defScope s__law_same) s.heap.objs.size f cdv))) (gd : (A.deeper (envOfC "_law_same" (defScope s__law_same) s.heap.objs.size f cdv)).guards = some []) :
    DSs (cxOf CX0 P w K mg base N__law_same "_law_same" (defScope s__law_same) f cdv A callers s H E).nox (defBody s__law_same) (w__law_same) := by
  have nd := sc__law_same.nd
  have hu := hr.units
  have hu5 := un65 hr
  have hu6 := un66 hr
  exact (dss_one (ds_ret (de_and (de_cmp (opd_eqE hu) (dv 0) (dv 1)) (de_one (de_cmp (opd_eqE hu) (de_c_repr gd hu6 rfl T.repr (da_cons (dv 0) da_nil)) (de_c_repr gd hu6 rfl T.repr (da_cons (dv 1) da_nil)))))))
theorem b_law {P : Program} {w : World} {K : PySem.W.Frag} {mg : Str → Option Value} {base : Heap} {f : Addr} {cdv : Value} {A : Around} {callers : List Env} {s : Shared} {H : Hp} {E : XK} (T : Bt mg) (hr : Room 5 (A.deeper (envOfC "law" (defScope s_law) s.heap.objs.size f cdv))) (gd : (A.deeper (envOfC "law" (defScope s_law) s.heap.objs.size f cdv)).guards = some []) (C__law_deck : Fn P w K mg base "_law_deck" 1 ["script"] [] (sp__law_deck K)) (C__law_deeds : Fn P w K mg base "_law_deeds" 2 ["deck", "copies", "count"] [] sp__law_deeds) (C__law_draw : Fn P w K mg base "_law_draw" 1 ["deck", "bound"] [] sp__law_draw) (C__law_join : Fn P w K mg base "_law_join" 1 ["one", "other"] [] sp__law_join) (C__law_rows : Fn P w K mg base "_law_rows" 1 ["copies", "deeds"] [] sp__law_rows) (C__law_same : Fn P w K mg base "_law_same" 1 ["told", "due"] [] sp__law_same) (C__law_tables : Fn P w K mg base "_law_tables" 1 ["copies", "deeds"] [] sp__law_tables) (C__law_vector : Fn P w K mg base "_law_vector" 1 ["copies", "knows"] [] sp__law_vector) (C_sheets : Fn P w K mg base "sheets" 4 ["copies", "acts"] [] sp_sheets) (C_sure : Fn P w K mg base "sure" 5 ["copies", "acts"] [] sp_sure) :
    DSs (cxOf CX0 P w K mg base N_law "law" (defScope s_law) f cdv A callers s H E).nox (defBody s_law) (w_law K) := by
  have nd := sc_law.nd
  have hu := hr.units
  have hu5 := un65 hr
  have hu6 := un66 hr
  exact (dss_cons (ds_set (i := 1) nd rfl (by first | exact Or.inl rfl | exact Or.inr rfl) (de_fn C__law_deck (hr.mono (by decide)) gd rfl (da_cons (dv 0) da_nil)))
  (dss_cons (ds_set (i := 2) nd rfl (by first | exact Or.inl rfl | exact Or.inr rfl) (de_op opd_add de_int (de_fn C__law_draw (hr.mono (by decide)) gd rfl (da_cons (dv 1) (da_cons de_int da_nil)))))
  (dss_cons (ds_set (i := 3) nd rfl (by first | exact Or.inl rfl | exact Or.inr rfl) (de_fn C__law_deeds (hr.mono (by decide)) gd rfl (da_cons (dv 1) (da_cons (dv 2) (da_cons (de_fn C__law_draw (hr.mono (by decide)) gd rfl (da_cons (dv 1) (da_cons (de_ix ixd_seq (de_lstF (da_cons de_int (da_cons de_int (da_cons de_int (da_cons de_int (da_cons de_int (da_cons de_int da_nil))))))) (de_fn C__law_draw (hr.mono (by decide)) gd rfl (da_cons (dv 1) (da_cons de_int da_nil)))) da_nil))) da_nil)))))
  (dss_cons (ds_set (i := 4) nd rfl (by first | exact Or.inl rfl | exact Or.inr rfl) (de_c_list rfl T.list (da_cons (dv 3) da_nil)))
  (dss_cons (ds_set (i := 5) nd rfl (by first | exact Or.inl rfl | exact Or.inr rfl) (de_fn C__law_tables (hr.mono (by decide)) gd rfl (da_cons (dv 2) (da_cons (dv 3) da_nil))))
  (dss_cons (ds_set (i := 6) nd rfl (by first | exact Or.inl rfl | exact Or.inr rfl) (de_lcF (own := [("row", 14)]) rfl nd (di_list (dv 5)) (blkOk_by (by kernel_rfl)) (by decide) (fun _ _ _ _ _ => (dg_name (i := 14) nd rfl (by first | exact Or.inl rfl | exact Or.inr rfl))) (fun _ _ _ _ _ => dts_nil) (fun _ _ _ _ _ => (de_lcF (own := [("knows", 17)]) rfl nd (di_list (dv 14)) (blkOk_by (by kernel_rfl)) (by decide) (fun _ _ _ _ _ => (dg_name (i := 17) nd rfl (by first | exact Or.inl rfl | exact Or.inr rfl))) (fun _ _ _ _ _ => dts_nil) (fun _ _ _ _ _ => (de_fn C__law_vector (hr.mono (by decide)) gd rfl (da_cons (dv 2) (da_cons (dv 17) da_nil))))))))
  (dss_cons (ds_set (i := 7) nd rfl (by first | exact Or.inl rfl | exact Or.inr rfl) (de_lcF (own := [("knows", 17)]) rfl nd (di_list (de_ix ixd_seq (de_fn C__law_rows (hr.mono (by decide)) gd rfl (da_cons (dv 2) (da_cons (dv 3) da_nil))) (de_un und_neg de_int))) (blkOk_by (by kernel_rfl)) (by decide) (fun _ _ _ _ _ => (dg_name (i := 17) nd rfl (by first | exact Or.inl rfl | exact Or.inr rfl))) (fun _ _ _ _ _ => dts_nil) (fun _ _ _ _ _ => (de_fn C__law_vector (hr.mono (by decide)) gd rfl (da_cons (dv 2) (da_cons (dv 17) da_nil))))))
  (dss_cons (ds_set (i := 8) nd rfl (by first | exact Or.inl rfl | exact Or.inr rfl) (de_fn C_sheets (hr.mono (by decide)) gd rfl (da_cons (dv 2) (da_cons (dv 4) da_nil))))
  (dss_cons (ds_set (i := 9) nd rfl (by first | exact Or.inl rfl | exact Or.inr rfl) (de_fn C_sure (hr.mono (by decide)) gd rfl (da_cons (dv 2) (da_cons (dv 4) da_nil))))
  (dss_cons (ds_if (PW.pt (dw_or (dt_not (dt_val (de_fn C__law_same (hr.mono (by decide)) gd rfl (da_cons (dv 8) (da_cons (dv 6) da_nil))))) (dw_or (dt_cmp (opd_neE hu) (de_c_len rfl T.len (da_cons (dv 9) da_nil)) (dv 2)) (dw_or1 (dt_cmp (opd_neE hu) (dv 4) (dv 3)))))) (dss_one (ds_ret de_bl)) dss_nil)
  (dss_cons (ds_for PassesOwn.never rfl (di_range1 rfl T.range (da_cons (dv 2) da_nil)) (dg_name (i := 10) nd rfl (by first | exact Or.inl rfl | exact Or.inr rfl)) (dss_cons (ds_if (dt_cmp (opd_neE hu) (de_ix ixd_seq (de_ix ixd_seq (dv 6) (dv 10)) (dv 10)) (de_ix ixd_seq (dv 7) (dv 10))) (dss_one (ds_ret de_bl)) dss_nil)
  (dss_cons (ds_set (i := 11) nd rfl (by first | exact Or.inl rfl | exact Or.inr rfl) (de_c_tuple rfl T.tuple (da_cons (de_lcF (own := [("k", 18)]) rfl nd (di_range1 rfl T.range (da_cons (dv 2) da_nil)) (blkOk_by (by kernel_rfl)) (by decide) (fun _ _ _ _ _ => (dg_name (i := 18) nd rfl (by first | exact Or.inl rfl | exact Or.inr rfl))) (fun _ _ _ _ _ => dts_nil) (fun _ _ _ _ _ => (de_c_min1 rfl rfl T.min (da_cons (de_lcF (own := [("vector", 19)]) rfl nd (di_list (de_ix ixd_seq (dv 6) (dv 10))) (blkOk_by (by kernel_rfl)) (by decide) (fun _ _ _ _ _ => (dg_name (i := 19) nd rfl (by first | exact Or.inl rfl | exact Or.inr rfl))) (fun _ _ _ _ _ => dts_nil) (fun _ _ _ _ _ => (de_ix ixd_seq (dv 19) (dv 18)))) da_nil)))) da_nil)))
  (dss_cons (ds_set (i := 12) nd rfl (by first | exact Or.inl rfl | exact Or.inr rfl) (de_c_tuple rfl T.tuple (da_cons (de_lcF (own := [("k", 18)]) rfl nd (di_range1 rfl T.range (da_cons (dv 2) da_nil)) (blkOk_by (by kernel_rfl)) (by decide) (fun _ _ _ _ _ => (dg_name (i := 18) nd rfl (by first | exact Or.inl rfl | exact Or.inr rfl))) (fun _ _ _ _ _ => dts_nil) (fun _ _ _ _ _ => (de_c_min1 rfl rfl T.min (da_cons (de_lcF (own := [("vector", 19)]) rfl nd (di_list (dv 7)) (blkOk_by (by kernel_rfl)) (by decide) (fun _ _ _ _ _ => (dg_name (i := 19) nd rfl (by first | exact Or.inl rfl | exact Or.inr rfl))) (fun _ _ _ _ _ => dts_nil) (fun _ _ _ _ _ => (de_ix ixd_seq (dv 19) (dv 18)))) da_nil)))) da_nil)))
  (dss_one (ds_if (PW.pt (dw_or (dt_not (dt_val (de_fn C__law_same (hr.mono (by decide)) gd rfl (da_cons (de_ix ixd_seq (dv 9) (dv 10)) (da_cons (dv 11) da_nil))))) (dw_or1 (dt_cmp (opd_neE hu) (de_fn C__law_join (hr.mono (by decide)) gd rfl (da_cons (dv 11) (da_cons (dv 12) da_nil))) (dv 12))))) (dss_one (ds_ret de_bl)) dss_nil))))))
  (dss_cons (ds_set (i := 13) nd rfl (by first | exact Or.inl rfl | exact Or.inr rfl) (de_c_listF rfl T.list (da_cons (dv 9) da_nil)))
  (dss_cons (ds_for PassesOwn.never rfl (di_list (dv 8)) (dg_name (i := 14) nd rfl (by first | exact Or.inl rfl | exact Or.inr rfl)) (dss_one (ds_expr (de_lappend (dv 14) (da_cons de_str da_nil)))))
  (dss_cons (ds_expr (de_lappend (dv 9) (da_cons de_str da_nil)))
  (dss_cons (ds_if (dt_not (dt_val (de_c_all rfl rfl T.all (da_cons (de_lcF (own := [("row", 14)]) rfl nd (di_list (dv 8)) (blkOk_by (by kernel_rfl)) (by decide) (fun _ _ _ _ _ => (dg_name (i := 14) nd rfl (by first | exact Or.inl rfl | exact Or.inr rfl))) (fun _ _ _ _ _ => dts_nil) (fun _ _ _ _ _ => (de_cmp (opd_eqE hu) (de_c_len rfl T.len (da_cons (dv 14) da_nil)) (de_op opd_add (dv 2) de_int)))) da_nil)))) (dss_one (ds_ret de_bl)) dss_nil)
  (dss_cons (ds_if (PW.pt (dw_or (dt_cmp (opd_neE hu) (de_fn C_sheets (hr.mono (by decide)) gd rfl (da_cons (dv 2) (da_cons (dv 4) da_nil))) (dv 6)) (dw_or1 (dt_cmp (opd_neE hu) (de_fn C_sure (hr.mono (by decide)) gd rfl (da_cons (dv 2) (da_cons (dv 4) da_nil))) (dv 13))))) (dss_one (ds_ret de_bl)) dss_nil)
  (dss_cons (ds_set (i := 15) nd rfl (by first | exact Or.inl rfl | exact Or.inr rfl) (de_c_tuple rfl T.tuple (da_cons (de_lcF (own := [("copy", 10)]) rfl nd (di_range1 rfl T.range (da_cons (dv 2) da_nil)) (blkOk_by (by kernel_rfl)) (by decide) (fun _ _ _ _ _ => (dg_name (i := 10) nd rfl (by first | exact Or.inl rfl | exact Or.inr rfl))) (fun _ _ _ _ _ => dts_nil) (fun _ _ _ _ _ => (de_lcount hu5 (de_slice sld_listF (dv 3) do_none (do_some de_int)) (da_cons (de_tup (da_cons de_str (da_cons (dv 10) da_nil))) da_nil)))) da_nil)))
  (dss_cons (ds_set (i := 16) nd rfl (by first | exact Or.inl rfl | exact Or.inr rfl) (de_op opd_add (de_lc (own := [("copy", 10)]) rfl nd (di_range2 rfl T.range (da_cons de_int (da_cons (dv 2) da_nil))) (blkOk_by (by kernel_rfl)) (by decide) (fun _ _ _ _ _ => (dg_name (i := 10) nd rfl (by first | exact Or.inl rfl | exact Or.inr rfl))) (fun _ _ _ _ _ => dts_nil) (fun _ _ _ _ _ => (de_tup (da_cons de_str (da_cons (dv 10) (da_cons de_int da_nil)))))) (de_lc (own := [("copy", 10)]) rfl nd (di_range2 rfl T.range (da_cons de_int (da_cons (dv 2) da_nil))) (blkOk_by (by kernel_rfl)) (by decide) (fun _ _ _ _ _ => (dg_name (i := 10) nd rfl (by first | exact Or.inl rfl | exact Or.inr rfl))) (fun _ _ _ _ _ => dts_nil) (fun _ _ _ _ _ => (de_tup (da_cons de_str (da_cons de_int (da_cons (dv 10) da_nil))))))))
  (dss_one (ds_ret (de_cmp (opd_eqE hu) (de_fn C_sure (hr.mono (by decide)) gd rfl (da_cons (dv 2) (da_cons (de_op opd_add (de_op opd_add (de_slice sld_list (dv 3) do_none (do_some de_int)) (dv 16)) (dv 16)) da_nil))) (de_op opd_mulE (de_lst (da_cons (dv 15) da_nil)) (dv 2)))))))))))))))))))))))
end DL

set_option Elab.async false
set_option linter.all false
set_option maxRecDepth 100000
set_option maxHeartbeats 4000000
namespace DL
open PySem L2 PyProof.Rows
theorem len_meet : ∀ ds M Q, sp_meet ds M Q → ds.length = 2 := by intro ds M Q h; first | (obtain ⟨rfl, _⟩ := h; rfl) | (obtain ⟨_, rfl, _⟩ := h; rfl) | (obtain ⟨_, _, rfl, _⟩ := h; rfl) | (obtain ⟨_, _, _, rfl, _⟩ := h; rfl) | (obtain ⟨_, _, _, _, rfl, _⟩ := h; rfl) | (obtain ⟨_, _, _, _, _, rfl, _⟩ := h; rfl) | (obtain ⟨_, _, _, _, _, _, rfl, _⟩ := h; rfl) | (obtain ⟨_, _, _, _, _, _, _, rfl, _⟩ := h; rfl)
theorem ok_meet {P : Program} {w : World} {K : PySem.W.Frag} {mg : Str → Option Value} {base : Heap} (T : Bt mg) (D : Def P w K mg "meet" s_meet ["first", "second"] []) : Fn P w K mg base "meet" 1 ["first", "second"] [] sp_meet := Def.fn D sc_meet len_meet (fun f => fun cdv A callers s H E hr gd => ⟨(w_meet), b_meet T hr gd, (rd_meet)⟩)
theorem len_join : ∀ ds M Q, sp_join ds M Q → ds.length = 2 := by intro ds M Q h; first | (obtain ⟨rfl, _⟩ := h; rfl) | (obtain ⟨_, rfl, _⟩ := h; rfl) | (obtain ⟨_, _, rfl, _⟩ := h; rfl) | (obtain ⟨_, _, _, rfl, _⟩ := h; rfl) | (obtain ⟨_, _, _, _, rfl, _⟩ := h; rfl) | (obtain ⟨_, _, _, _, _, rfl, _⟩ := h; rfl) | (obtain ⟨_, _, _, _, _, _, rfl, _⟩ := h; rfl) | (obtain ⟨_, _, _, _, _, _, _, rfl, _⟩ := h; rfl)
theorem ok_join {P : Program} {w : World} {K : PySem.W.Frag} {mg : Str → Option Value} {base : Heap} (T : Bt mg) (D : Def P w K mg "join" s_join ["first", "second"] []) : Fn P w K mg base "join" 1 ["first", "second"] [] sp_join := Def.fn D sc_join len_join (fun f => fun cdv A callers s H E hr gd => ⟨(w_join), b_join T hr gd, (rd_join)⟩)
theorem len_raised : ∀ ds M Q, sp_raised ds M Q → ds.length = 2 := by intro ds M Q h; first | (obtain ⟨rfl, _⟩ := h; rfl) | (obtain ⟨_, rfl, _⟩ := h; rfl) | (obtain ⟨_, _, rfl, _⟩ := h; rfl) | (obtain ⟨_, _, _, rfl, _⟩ := h; rfl) | (obtain ⟨_, _, _, _, rfl, _⟩ := h; rfl) | (obtain ⟨_, _, _, _, _, rfl, _⟩ := h; rfl) | (obtain ⟨_, _, _, _, _, _, rfl, _⟩ := h; rfl) | (obtain ⟨_, _, _, _, _, _, _, rfl, _⟩ := h; rfl)
theorem ok_raised {P : Program} {w : World} {K : PySem.W.Frag} {mg : Str → Option Value} {base : Heap} (T : Bt mg) (D : Def P w K mg "raised" s_raised ["vector", "copy"] []) : Fn P w K mg base "raised" 1 ["vector", "copy"] [] sp_raised := Def.fn D sc_raised len_raised (fun f => fun cdv A callers s H E hr gd => ⟨(w_raised), b_raised T hr gd, (rd_raised)⟩)
theorem len_joined : ∀ ds M Q, sp_joined ds M Q → ds.length = 2 := by intro ds M Q h; first | (obtain ⟨rfl, _⟩ := h; rfl) | (obtain ⟨_, rfl, _⟩ := h; rfl) | (obtain ⟨_, _, rfl, _⟩ := h; rfl) | (obtain ⟨_, _, _, rfl, _⟩ := h; rfl) | (obtain ⟨_, _, _, _, rfl, _⟩ := h; rfl) | (obtain ⟨_, _, _, _, _, rfl, _⟩ := h; rfl) | (obtain ⟨_, _, _, _, _, _, rfl, _⟩ := h; rfl) | (obtain ⟨_, _, _, _, _, _, _, rfl, _⟩ := h; rfl)
theorem ok_joined {P : Program} {w : World} {K : PySem.W.Frag} {mg : Str → Option Value} {base : Heap} (T : Bt mg) (D : Def P w K mg "joined" s_joined ["first", "second"] []) (C_join : Fn P w K mg base "join" 1 ["first", "second"] [] sp_join) : Fn P w K mg base "joined" 2 ["first", "second"] [] sp_joined := Def.fn D sc_joined len_joined (fun f => fun cdv A callers s H E hr gd => ⟨(w_joined), b_joined T hr gd C_join, (rd_joined)⟩)
theorem len_behind : ∀ ds M Q, sp_behind ds M Q → ds.length = 2 := by intro ds M Q h; first | (obtain ⟨rfl, _⟩ := h; rfl) | (obtain ⟨_, rfl, _⟩ := h; rfl) | (obtain ⟨_, _, rfl, _⟩ := h; rfl) | (obtain ⟨_, _, _, rfl, _⟩ := h; rfl) | (obtain ⟨_, _, _, _, rfl, _⟩ := h; rfl) | (obtain ⟨_, _, _, _, _, rfl, _⟩ := h; rfl) | (obtain ⟨_, _, _, _, _, _, rfl, _⟩ := h; rfl) | (obtain ⟨_, _, _, _, _, _, _, rfl, _⟩ := h; rfl)
theorem ok_behind {P : Program} {w : World} {K : PySem.W.Frag} {mg : Str → Option Value} {base : Heap} (T : Bt mg) (D : Def P w K mg "behind" s_behind ["found", "act"] []) (C_join : Fn P w K mg base "join" 1 ["first", "second"] [] sp_join) (C_joined : Fn P w K mg base "joined" 2 ["first", "second"] [] sp_joined) (C_raised : Fn P w K mg base "raised" 1 ["vector", "copy"] [] sp_raised) : Fn P w K mg base "behind" 3 ["found", "act"] [] sp_behind := Def.fn D sc_behind len_behind (fun f => fun cdv A callers s H E hr gd => ⟨(w_behind), b_behind T hr gd C_join C_joined C_raised, (rd_behind)⟩)
theorem len_sheets : ∀ ds M Q, sp_sheets ds M Q → ds.length = 2 := by intro ds M Q h; first | (obtain ⟨rfl, _⟩ := h; rfl) | (obtain ⟨_, rfl, _⟩ := h; rfl) | (obtain ⟨_, _, rfl, _⟩ := h; rfl) | (obtain ⟨_, _, _, rfl, _⟩ := h; rfl) | (obtain ⟨_, _, _, _, rfl, _⟩ := h; rfl) | (obtain ⟨_, _, _, _, _, rfl, _⟩ := h; rfl) | (obtain ⟨_, _, _, _, _, _, rfl, _⟩ := h; rfl) | (obtain ⟨_, _, _, _, _, _, _, rfl, _⟩ := h; rfl)
theorem ok_sheets {P : Program} {w : World} {K : PySem.W.Frag} {mg : Str → Option Value} {base : Heap} (T : Bt mg) (D : Def P w K mg "sheets" s_sheets ["copies", "acts"] []) (C_behind : Fn P w K mg base "behind" 3 ["found", "act"] [] sp_behind) : Fn P w K mg base "sheets" 4 ["copies", "acts"] [] sp_sheets := Def.fn D sc_sheets len_sheets (fun f => fun cdv A callers s H E hr gd => ⟨(w_sheets), b_sheets T hr gd C_behind, (rd_sheets)⟩)
theorem len_sure : ∀ ds M Q, sp_sure ds M Q → ds.length = 2 := by intro ds M Q h; first | (obtain ⟨rfl, _⟩ := h; rfl) | (obtain ⟨_, rfl, _⟩ := h; rfl) | (obtain ⟨_, _, rfl, _⟩ := h; rfl) | (obtain ⟨_, _, _, rfl, _⟩ := h; rfl) | (obtain ⟨_, _, _, _, rfl, _⟩ := h; rfl) | (obtain ⟨_, _, _, _, _, rfl, _⟩ := h; rfl) | (obtain ⟨_, _, _, _, _, _, rfl, _⟩ := h; rfl) | (obtain ⟨_, _, _, _, _, _, _, rfl, _⟩ := h; rfl)
theorem ok_sure {P : Program} {w : World} {K : PySem.W.Frag} {mg : Str → Option Value} {base : Heap} (T : Bt mg) (D : Def P w K mg "sure" s_sure ["copies", "acts"] []) (C_meet : Fn P w K mg base "meet" 1 ["first", "second"] [] sp_meet) (C_sheets : Fn P w K mg base "sheets" 4 ["copies", "acts"] [] sp_sheets) : Fn P w K mg base "sure" 5 ["copies", "acts"] [] sp_sure := Def.fn D sc_sure len_sure (fun f => fun cdv A callers s H E hr gd => ⟨(w_sure), b_sure T hr gd C_meet C_sheets, (rd_sure)⟩)
theorem len__law_deck {K : PySem.W.Frag} : ∀ ds M Q, (sp__law_deck K) ds M Q → ds.length = 1 := by intro ds M Q h; first | (obtain ⟨rfl, _⟩ := h; rfl) | (obtain ⟨_, rfl, _⟩ := h; rfl) | (obtain ⟨_, _, rfl, _⟩ := h; rfl) | (obtain ⟨_, _, _, rfl, _⟩ := h; rfl) | (obtain ⟨_, _, _, _, rfl, _⟩ := h; rfl) | (obtain ⟨_, _, _, _, _, rfl, _⟩ := h; rfl) | (obtain ⟨_, _, _, _, _, _, rfl, _⟩ := h; rfl) | (obtain ⟨_, _, _, _, _, _, _, rfl, _⟩ := h; rfl)
theorem ok__law_deck {P : Program} {w : World} {K : PySem.W.Frag} {mg : Str → Option Value} {base : Heap} (T : Bt mg) (D : Def P w K mg "_law_deck" s__law_deck ["script"] []) : Fn P w K mg base "_law_deck" 1 ["script"] [] (sp__law_deck K) := Def.fn D sc__law_deck len__law_deck (fun f => fun cdv A callers s H E hr gd => ⟨(w__law_deck K), b__law_deck T hr gd, (rd__law_deck K)⟩)
theorem len__law_draw : ∀ ds M Q, sp__law_draw ds M Q → ds.length = 2 := by intro ds M Q h; first | (obtain ⟨rfl, _⟩ := h; rfl) | (obtain ⟨_, rfl, _⟩ := h; rfl) | (obtain ⟨_, _, rfl, _⟩ := h; rfl) | (obtain ⟨_, _, _, rfl, _⟩ := h; rfl) | (obtain ⟨_, _, _, _, rfl, _⟩ := h; rfl) | (obtain ⟨_, _, _, _, _, rfl, _⟩ := h; rfl) | (obtain ⟨_, _, _, _, _, _, rfl, _⟩ := h; rfl) | (obtain ⟨_, _, _, _, _, _, _, rfl, _⟩ := h; rfl)
theorem ok__law_draw {P : Program} {w : World} {K : PySem.W.Frag} {mg : Str → Option Value} {base : Heap} (T : Bt mg) (D : Def P w K mg "_law_draw" s__law_draw ["deck", "bound"] []) : Fn P w K mg base "_law_draw" 1 ["deck", "bound"] [] sp__law_draw := Def.fn D sc__law_draw len__law_draw (fun f => fun cdv A callers s H E hr gd => ⟨(w__law_draw), b__law_draw T hr gd, (rd__law_draw)⟩)
theorem len__law_join : ∀ ds M Q, sp__law_join ds M Q → ds.length = 2 := by intro ds M Q h; first | (obtain ⟨rfl, _⟩ := h; rfl) | (obtain ⟨_, rfl, _⟩ := h; rfl) | (obtain ⟨_, _, rfl, _⟩ := h; rfl) | (obtain ⟨_, _, _, rfl, _⟩ := h; rfl) | (obtain ⟨_, _, _, _, rfl, _⟩ := h; rfl) | (obtain ⟨_, _, _, _, _, rfl, _⟩ := h; rfl) | (obtain ⟨_, _, _, _, _, _, rfl, _⟩ := h; rfl) | (obtain ⟨_, _, _, _, _, _, _, rfl, _⟩ := h; rfl)
theorem ok__law_join {P : Program} {w : World} {K : PySem.W.Frag} {mg : Str → Option Value} {base : Heap} (T : Bt mg) (D : Def P w K mg "_law_join" s__law_join ["one", "other"] []) : Fn P w K mg base "_law_join" 1 ["one", "other"] [] sp__law_join := Def.fn D sc__law_join len__law_join (fun f => fun cdv A callers s H E hr gd => ⟨(w__law_join), b__law_join T hr gd, (rd__law_join)⟩)
theorem len__law_deeds : ∀ ds M Q, sp__law_deeds ds M Q → ds.length = 3 := by intro ds M Q h; first | (obtain ⟨rfl, _⟩ := h; rfl) | (obtain ⟨_, rfl, _⟩ := h; rfl) | (obtain ⟨_, _, rfl, _⟩ := h; rfl) | (obtain ⟨_, _, _, rfl, _⟩ := h; rfl) | (obtain ⟨_, _, _, _, rfl, _⟩ := h; rfl) | (obtain ⟨_, _, _, _, _, rfl, _⟩ := h; rfl) | (obtain ⟨_, _, _, _, _, _, rfl, _⟩ := h; rfl) | (obtain ⟨_, _, _, _, _, _, _, rfl, _⟩ := h; rfl)
theorem ok__law_deeds {P : Program} {w : World} {K : PySem.W.Frag} {mg : Str → Option Value} {base : Heap} (T : Bt mg) (D : Def P w K mg "_law_deeds" s__law_deeds ["deck", "copies", "count"] []) (C__law_draw : Fn P w K mg base "_law_draw" 1 ["deck", "bound"] [] sp__law_draw) : Fn P w K mg base "_law_deeds" 2 ["deck", "copies", "count"] [] sp__law_deeds := Def.fn D sc__law_deeds len__law_deeds (fun f => fun cdv A callers s H E hr gd => ⟨(w__law_deeds), b__law_deeds T hr gd C__law_draw, (rd__law_deeds)⟩)
theorem len__law_rows : ∀ ds M Q, sp__law_rows ds M Q → ds.length = 2 := by intro ds M Q h; first | (obtain ⟨rfl, _⟩ := h; rfl) | (obtain ⟨_, rfl, _⟩ := h; rfl) | (obtain ⟨_, _, rfl, _⟩ := h; rfl) | (obtain ⟨_, _, _, rfl, _⟩ := h; rfl) | (obtain ⟨_, _, _, _, rfl, _⟩ := h; rfl) | (obtain ⟨_, _, _, _, _, rfl, _⟩ := h; rfl) | (obtain ⟨_, _, _, _, _, _, rfl, _⟩ := h; rfl) | (obtain ⟨_, _, _, _, _, _, _, rfl, _⟩ := h; rfl)
theorem ok__law_rows {P : Program} {w : World} {K : PySem.W.Frag} {mg : Str → Option Value} {base : Heap} (T : Bt mg) (D : Def P w K mg "_law_rows" s__law_rows ["copies", "deeds"] []) : Fn P w K mg base "_law_rows" 1 ["copies", "deeds"] [] sp__law_rows := Def.fn D sc__law_rows len__law_rows (fun f => fun cdv A callers s H E hr gd => ⟨(w__law_rows w), b__law_rows T hr gd, (rd__law_rows w)⟩)
theorem len__law_vector : ∀ ds M Q, sp__law_vector ds M Q → ds.length = 2 := by intro ds M Q h; first | (obtain ⟨rfl, _⟩ := h; rfl) | (obtain ⟨_, rfl, _⟩ := h; rfl) | (obtain ⟨_, _, rfl, _⟩ := h; rfl) | (obtain ⟨_, _, _, rfl, _⟩ := h; rfl) | (obtain ⟨_, _, _, _, rfl, _⟩ := h; rfl) | (obtain ⟨_, _, _, _, _, rfl, _⟩ := h; rfl) | (obtain ⟨_, _, _, _, _, _, rfl, _⟩ := h; rfl) | (obtain ⟨_, _, _, _, _, _, _, rfl, _⟩ := h; rfl)
theorem ok__law_vector {P : Program} {w : World} {K : PySem.W.Frag} {mg : Str → Option Value} {base : Heap} (T : Bt mg) (D : Def P w K mg "_law_vector" s__law_vector ["copies", "knows"] []) : Fn P w K mg base "_law_vector" 1 ["copies", "knows"] [] sp__law_vector := Def.fn D sc__law_vector len__law_vector (fun f => fun cdv A callers s H E hr gd => ⟨(w__law_vector), b__law_vector T hr gd, (rd__law_vector)⟩)
theorem len__law_tables : ∀ ds M Q, sp__law_tables ds M Q → ds.length = 2 := by intro ds M Q h; first | (obtain ⟨rfl, _⟩ := h; rfl) | (obtain ⟨_, rfl, _⟩ := h; rfl) | (obtain ⟨_, _, rfl, _⟩ := h; rfl) | (obtain ⟨_, _, _, rfl, _⟩ := h; rfl) | (obtain ⟨_, _, _, _, rfl, _⟩ := h; rfl) | (obtain ⟨_, _, _, _, _, rfl, _⟩ := h; rfl) | (obtain ⟨_, _, _, _, _, _, rfl, _⟩ := h; rfl) | (obtain ⟨_, _, _, _, _, _, _, rfl, _⟩ := h; rfl)
theorem ok__law_tables {P : Program} {w : World} {K : PySem.W.Frag} {mg : Str → Option Value} {base : Heap} (T : Bt mg) (D : Def P w K mg "_law_tables" s__law_tables ["copies", "deeds"] []) : Fn P w K mg base "_law_tables" 1 ["copies", "deeds"] [] sp__law_tables := Def.fn D sc__law_tables len__law_tables (fun f => fun cdv A callers s H E hr gd => ⟨(w__law_tables w), b__law_tables T hr gd, (rd__law_tables w)⟩)
theorem len__law_same : ∀ ds M Q, sp__law_same ds M Q → ds.length = 2 := by intro ds M Q h; first | (obtain ⟨rfl, _⟩ := h; rfl) | (obtain ⟨_, rfl, _⟩ := h; rfl) | (obtain ⟨_, _, rfl, _⟩ := h; rfl) | (obtain ⟨_, _, _, rfl, _⟩ := h; rfl) | (obtain ⟨_, _, _, _, rfl, _⟩ := h; rfl) | (obtain ⟨_, _, _, _, _, rfl, _⟩ := h; rfl) | (obtain ⟨_, _, _, _, _, _, rfl, _⟩ := h; rfl) | (obtain ⟨_, _, _, _, _, _, _, rfl, _⟩ := h; rfl)
theorem ok__law_same {P : Program} {w : World} {K : PySem.W.Frag} {mg : Str → Option Value} {base : Heap} (T : Bt mg) (D : Def P w K mg "_law_same" s__law_same ["told", "due"] []) : Fn P w K mg base "_law_same" 1 ["told", "due"] [] sp__law_same := Def.fn D sc__law_same len__law_same (fun f => fun cdv A callers s H E hr gd => ⟨(w__law_same), b__law_same T hr gd, (rd__law_same)⟩)
theorem len_law {K : PySem.W.Frag} : ∀ ds M Q, (sp_law K) ds M Q → ds.length = 1 := by intro ds M Q h; first | (obtain ⟨rfl, _⟩ := h; rfl) | (obtain ⟨_, rfl, _⟩ := h; rfl) | (obtain ⟨_, _, rfl, _⟩ := h; rfl) | (obtain ⟨_, _, _, rfl, _⟩ := h; rfl) | (obtain ⟨_, _, _, _, rfl, _⟩ := h; rfl) | (obtain ⟨_, _, _, _, _, rfl, _⟩ := h; rfl) | (obtain ⟨_, _, _, _, _, _, rfl, _⟩ := h; rfl) | (obtain ⟨_, _, _, _, _, _, _, rfl, _⟩ := h; rfl)
theorem ok_law {P : Program} {w : World} {K : PySem.W.Frag} {mg : Str → Option Value} {base : Heap} (T : Bt mg) {f : Addr} {fd : FuncData} (F : Fun K "law" "law" s_law f fd) (C__law_deck : Fn P w K mg base "_law_deck" 1 ["script"] [] (sp__law_deck K)) (C__law_deeds : Fn P w K mg base "_law_deeds" 2 ["deck", "copies", "count"] [] sp__law_deeds) (C__law_draw : Fn P w K mg base "_law_draw" 1 ["deck", "bound"] [] sp__law_draw) (C__law_join : Fn P w K mg base "_law_join" 1 ["one", "other"] [] sp__law_join) (C__law_rows : Fn P w K mg base "_law_rows" 1 ["copies", "deeds"] [] sp__law_rows) (C__law_same : Fn P w K mg base "_law_same" 1 ["told", "due"] [] sp__law_same) (C__law_tables : Fn P w K mg base "_law_tables" 1 ["copies", "deeds"] [] sp__law_tables) (C__law_vector : Fn P w K mg base "_law_vector" 1 ["copies", "knows"] [] sp__law_vector) (C_sheets : Fn P w K mg base "sheets" 4 ["copies", "acts"] [] sp_sheets) (C_sure : Fn P w K mg base "sure" 5 ["copies", "acts"] [] sp_sure) : DFn P w K mg base 6 f fd ["script"] (sp_law K) := dfn_ok F sc_law len_law (fun cdv A callers s H E hr gd => ⟨(w_law K), b_law T hr gd C__law_deck C__law_deeds C__law_draw C__law_join C__law_rows C__law_same C__law_tables C__law_vector C_sheets C_sure, (rd_law K)⟩)
theorem all_mk {l : PySem.W.OpenLaw} {w : World} {K : PySem.W.Frag} {h : Heap} {mg : Str → Option Value} {fa g0 g1 g2 g3 g4 g5 g6 g7 g8 g9 g10 g11 g12 g13 g14 g15 : Addr} (X : K.In h) (G : h.Ns mainGlobals mg) (hfa : mg "law" = some (.ref fa))
    {od0 an0 od1 an1 od2 an2 od3 an3 od4 an4 od5 an5 od6 an6 od7 an7 od8 an8 od9 an9 od10 an10 od11 an11 od12 an12 od13 an13 od14 an14 od15 an15 : Option Addr} {sl0 sl1 sl2 sl3 sl4 sl5 sl6 sl7 sl8 sl9 sl10 sl11 sl12 sl13 sl14 sl15 : Array (Option Value)} {oc0 kV0 dc0 pm0 cd0 ct0 oc1 kV1 dc1 pm1 cd1 ct1 oc2 kV2 dc2 pm2 cd2 ct2 oc3 kV3 dc3 pm3 cd3 ct3 oc4 kV4 dc4 pm4 cd4 ct4 oc5 kV5 dc5 pm5 cd5 ct5 oc6 kV6 dc6 pm6 cd6 ct6 oc7 kV7 dc7 pm7 cd7 ct7 oc8 kV8 dc8 pm8 cd8 ct8 oc9 kV9 dc9 pm9 cd9 ct9 oc10 kV10 dc10 pm10 cd10 ct10 oc11 kV11 dc11 pm11 cd11 ct11 oc12 kV12 dc12 pm12 cd12 ct12 oc13 kV13 dc13 pm13 cd13 ct13 oc14 kV14 dc14 pm14 cd14 ct14 oc15 kV15 dc15 pm15 cd15 ct15 : Value}
    (a0 : PySem.W.nsIn K mainGlobals "meet" = some (some (.ref g0))) (l0 : K.lookup g0 = some ⟨oc0, od0, .func (PySem.W.fnOf "meet" "meet" (defArgs s_meet) (defBody s_meet) (defScope s_meet) .none kV0 dc0 pm0 an0 cd0 ct0), sl0⟩) (c0 : PySem.W.codeIn K cd0 "meet" = true) (k0 : PySem.W.keepIn K (.ref g0) = true)
    (a1 : PySem.W.nsIn K mainGlobals "join" = some (some (.ref g1))) (l1 : K.lookup g1 = some ⟨oc1, od1, .func (PySem.W.fnOf "join" "join" (defArgs s_join) (defBody s_join) (defScope s_join) .none kV1 dc1 pm1 an1 cd1 ct1), sl1⟩) (c1 : PySem.W.codeIn K cd1 "join" = true) (k1 : PySem.W.keepIn K (.ref g1) = true)
    (a2 : PySem.W.nsIn K mainGlobals "raised" = some (some (.ref g2))) (l2 : K.lookup g2 = some ⟨oc2, od2, .func (PySem.W.fnOf "raised" "raised" (defArgs s_raised) (defBody s_raised) (defScope s_raised) .none kV2 dc2 pm2 an2 cd2 ct2), sl2⟩) (c2 : PySem.W.codeIn K cd2 "raised" = true) (k2 : PySem.W.keepIn K (.ref g2) = true)
    (a3 : PySem.W.nsIn K mainGlobals "joined" = some (some (.ref g3))) (l3 : K.lookup g3 = some ⟨oc3, od3, .func (PySem.W.fnOf "joined" "joined" (defArgs s_joined) (defBody s_joined) (defScope s_joined) .none kV3 dc3 pm3 an3 cd3 ct3), sl3⟩) (c3 : PySem.W.codeIn K cd3 "joined" = true) (k3 : PySem.W.keepIn K (.ref g3) = true)
    (a4 : PySem.W.nsIn K mainGlobals "behind" = some (some (.ref g4))) (l4 : K.lookup g4 = some ⟨oc4, od4, .func (PySem.W.fnOf "behind" "behind" (defArgs s_behind) (defBody s_behind) (defScope s_behind) .none kV4 dc4 pm4 an4 cd4 ct4), sl4⟩) (c4 : PySem.W.codeIn K cd4 "behind" = true) (k4 : PySem.W.keepIn K (.ref g4) = true)
    (a5 : PySem.W.nsIn K mainGlobals "sheets" = some (some (.ref g5))) (l5 : K.lookup g5 = some ⟨oc5, od5, .func (PySem.W.fnOf "sheets" "sheets" (defArgs s_sheets) (defBody s_sheets) (defScope s_sheets) .none kV5 dc5 pm5 an5 cd5 ct5), sl5⟩) (c5 : PySem.W.codeIn K cd5 "sheets" = true) (k5 : PySem.W.keepIn K (.ref g5) = true)
    (a6 : PySem.W.nsIn K mainGlobals "sure" = some (some (.ref g6))) (l6 : K.lookup g6 = some ⟨oc6, od6, .func (PySem.W.fnOf "sure" "sure" (defArgs s_sure) (defBody s_sure) (defScope s_sure) .none kV6 dc6 pm6 an6 cd6 ct6), sl6⟩) (c6 : PySem.W.codeIn K cd6 "sure" = true) (k6 : PySem.W.keepIn K (.ref g6) = true)
    (a7 : PySem.W.nsIn K mainGlobals "_law_deck" = some (some (.ref g7))) (l7 : K.lookup g7 = some ⟨oc7, od7, .func (PySem.W.fnOf "_law_deck" "_law_deck" (defArgs s__law_deck) (defBody s__law_deck) (defScope s__law_deck) .none kV7 dc7 pm7 an7 cd7 ct7), sl7⟩) (c7 : PySem.W.codeIn K cd7 "_law_deck" = true) (k7 : PySem.W.keepIn K (.ref g7) = true)
    (a8 : PySem.W.nsIn K mainGlobals "_law_draw" = some (some (.ref g8))) (l8 : K.lookup g8 = some ⟨oc8, od8, .func (PySem.W.fnOf "_law_draw" "_law_draw" (defArgs s__law_draw) (defBody s__law_draw) (defScope s__law_draw) .none kV8 dc8 pm8 an8 cd8 ct8), sl8⟩) (c8 : PySem.W.codeIn K cd8 "_law_draw" = true) (k8 : PySem.W.keepIn K (.ref g8) = true)
    (a9 : PySem.W.nsIn K mainGlobals "_law_join" = some (some (.ref g9))) (l9 : K.lookup g9 = some ⟨oc9, od9, .func (PySem.W.fnOf "_law_join" "_law_join" (defArgs s__law_join) (defBody s__law_join) (defScope s__law_join) .none kV9 dc9 pm9 an9 cd9 ct9), sl9⟩) (c9 : PySem.W.codeIn K cd9 "_law_join" = true) (k9 : PySem.W.keepIn K (.ref g9) = true)
    (a10 : PySem.W.nsIn K mainGlobals "_law_deeds" = some (some (.ref g10))) (l10 : K.lookup g10 = some ⟨oc10, od10, .func (PySem.W.fnOf "_law_deeds" "_law_deeds" (defArgs s__law_deeds) (defBody s__law_deeds) (defScope s__law_deeds) .none kV10 dc10 pm10 an10 cd10 ct10), sl10⟩) (c10 : PySem.W.codeIn K cd10 "_law_deeds" = true) (k10 : PySem.W.keepIn K (.ref g10) = true)
    (a11 : PySem.W.nsIn K mainGlobals "_law_rows" = some (some (.ref g11))) (l11 : K.lookup g11 = some ⟨oc11, od11, .func (PySem.W.fnOf "_law_rows" "_law_rows" (defArgs s__law_rows) (defBody s__law_rows) (defScope s__law_rows) .none kV11 dc11 pm11 an11 cd11 ct11), sl11⟩) (c11 : PySem.W.codeIn K cd11 "_law_rows" = true) (k11 : PySem.W.keepIn K (.ref g11) = true)
    (a12 : PySem.W.nsIn K mainGlobals "_law_vector" = some (some (.ref g12))) (l12 : K.lookup g12 = some ⟨oc12, od12, .func (PySem.W.fnOf "_law_vector" "_law_vector" (defArgs s__law_vector) (defBody s__law_vector) (defScope s__law_vector) .none kV12 dc12 pm12 an12 cd12 ct12), sl12⟩) (c12 : PySem.W.codeIn K cd12 "_law_vector" = true) (k12 : PySem.W.keepIn K (.ref g12) = true)
    (a13 : PySem.W.nsIn K mainGlobals "_law_tables" = some (some (.ref g13))) (l13 : K.lookup g13 = some ⟨oc13, od13, .func (PySem.W.fnOf "_law_tables" "_law_tables" (defArgs s__law_tables) (defBody s__law_tables) (defScope s__law_tables) .none kV13 dc13 pm13 an13 cd13 ct13), sl13⟩) (c13 : PySem.W.codeIn K cd13 "_law_tables" = true) (k13 : PySem.W.keepIn K (.ref g13) = true)
    (a14 : PySem.W.nsIn K mainGlobals "_law_same" = some (some (.ref g14))) (l14 : K.lookup g14 = some ⟨oc14, od14, .func (PySem.W.fnOf "_law_same" "_law_same" (defArgs s__law_same) (defBody s__law_same) (defScope s__law_same) .none kV14 dc14 pm14 an14 cd14 ct14), sl14⟩) (c14 : PySem.W.codeIn K cd14 "_law_same" = true) (k14 : PySem.W.keepIn K (.ref g14) = true)
    (a15 : PySem.W.nsIn K mainGlobals "law" = some (some (.ref g15))) (l15 : K.lookup g15 = some ⟨oc15, od15, .func (PySem.W.fnOf "law" "law" (defArgs s_law) (defBody s_law) (defScope s_law) .none kV15 dc15 pm15 an15 cd15 ct15), sl15⟩) (c15 : PySem.W.codeIn K cd15 "law" = true) (k15 : PySem.W.keepIn K (.ref g15) = true)
    (z_abs : PySem.W.nsIn K mainGlobals "abs" = some none)
    (z_all : PySem.W.nsIn K mainGlobals "all" = some none)
    (z_dict : PySem.W.nsIn K mainGlobals "dict" = some none)
    (z_int : PySem.W.nsIn K mainGlobals "int" = some none)
    (z_len : PySem.W.nsIn K mainGlobals "len" = some none)
    (z_list : PySem.W.nsIn K mainGlobals "list" = some none)
    (z_max : PySem.W.nsIn K mainGlobals "max" = some none)
    (z_min : PySem.W.nsIn K mainGlobals "min" = some none)
    (z_range : PySem.W.nsIn K mainGlobals "range" = some none)
    (z_repr : PySem.W.nsIn K mainGlobals "repr" = some none)
    (z_tuple : PySem.W.nsIn K mainGlobals "tuple" = some none)
    (z_zip : PySem.W.nsIn K mainGlobals "zip" = some none)
    : ∃ fd : FuncData, (∀ (s : Shared) (v : Value), BindsTo s fd ⟨[v], []⟩ [("script", v)]) ∧ ∀ base : Heap, K.In base → base.Ns mainGlobals mg → DFn l.prog w K mg base 6 fa fd ["script"] (sp_law K) := by
  have e := hfa.symm.trans (PySem.W.mg_of X G a15)
  cases e
  have T : Bt mg := ⟨PySem.W.mg_none_of X G z_abs, PySem.W.mg_none_of X G z_all, PySem.W.mg_none_of X G z_dict, PySem.W.mg_none_of X G z_int, PySem.W.mg_none_of X G z_len, PySem.W.mg_none_of X G z_list, PySem.W.mg_none_of X G z_max, PySem.W.mg_none_of X G z_min, PySem.W.mg_none_of X G z_range, PySem.W.mg_none_of X G z_repr, PySem.W.mg_none_of X G z_tuple, PySem.W.mg_none_of X G z_zip⟩
  have D0 : Def l.prog w K mg "meet" s_meet ["first", "second"] [] := ⟨g0, _, [], [], fun_mk (st := s_meet) l0 c0 k0, PySem.W.mg_of X G a0, (fun_mk (st := s_meet) l0 c0 k0).binds (ps := ["first", "second"]) fun _ _ _ _ _ _ us hl => match us, hl with | [_, _], _ => rfl, .nil, fun _ => .nil⟩
  have D1 : Def l.prog w K mg "join" s_join ["first", "second"] [] := ⟨g1, _, [], [], fun_mk (st := s_join) l1 c1 k1, PySem.W.mg_of X G a1, (fun_mk (st := s_join) l1 c1 k1).binds (ps := ["first", "second"]) fun _ _ _ _ _ _ us hl => match us, hl with | [_, _], _ => rfl, .nil, fun _ => .nil⟩
  have D2 : Def l.prog w K mg "raised" s_raised ["vector", "copy"] [] := ⟨g2, _, [], [], fun_mk (st := s_raised) l2 c2 k2, PySem.W.mg_of X G a2, (fun_mk (st := s_raised) l2 c2 k2).binds (ps := ["vector", "copy"]) fun _ _ _ _ _ _ us hl => match us, hl with | [_, _], _ => rfl, .nil, fun _ => .nil⟩
  have D3 : Def l.prog w K mg "joined" s_joined ["first", "second"] [] := ⟨g3, _, [], [], fun_mk (st := s_joined) l3 c3 k3, PySem.W.mg_of X G a3, (fun_mk (st := s_joined) l3 c3 k3).binds (ps := ["first", "second"]) fun _ _ _ _ _ _ us hl => match us, hl with | [_, _], _ => rfl, .nil, fun _ => .nil⟩
  have D4 : Def l.prog w K mg "behind" s_behind ["found", "act"] [] := ⟨g4, _, [], [], fun_mk (st := s_behind) l4 c4 k4, PySem.W.mg_of X G a4, (fun_mk (st := s_behind) l4 c4 k4).binds (ps := ["found", "act"]) fun _ _ _ _ _ _ us hl => match us, hl with | [_, _], _ => rfl, .nil, fun _ => .nil⟩
  have D5 : Def l.prog w K mg "sheets" s_sheets ["copies", "acts"] [] := ⟨g5, _, [], [], fun_mk (st := s_sheets) l5 c5 k5, PySem.W.mg_of X G a5, (fun_mk (st := s_sheets) l5 c5 k5).binds (ps := ["copies", "acts"]) fun _ _ _ _ _ _ us hl => match us, hl with | [_, _], _ => rfl, .nil, fun _ => .nil⟩
  have D6 : Def l.prog w K mg "sure" s_sure ["copies", "acts"] [] := ⟨g6, _, [], [], fun_mk (st := s_sure) l6 c6 k6, PySem.W.mg_of X G a6, (fun_mk (st := s_sure) l6 c6 k6).binds (ps := ["copies", "acts"]) fun _ _ _ _ _ _ us hl => match us, hl with | [_, _], _ => rfl, .nil, fun _ => .nil⟩
  have D7 : Def l.prog w K mg "_law_deck" s__law_deck ["script"] [] := ⟨g7, _, [], [], fun_mk (st := s__law_deck) l7 c7 k7, PySem.W.mg_of X G a7, (fun_mk (st := s__law_deck) l7 c7 k7).binds (ps := ["script"]) fun _ _ _ _ _ _ us hl => match us, hl with | [_], _ => rfl, .nil, fun _ => .nil⟩
  have D8 : Def l.prog w K mg "_law_draw" s__law_draw ["deck", "bound"] [] := ⟨g8, _, [], [], fun_mk (st := s__law_draw) l8 c8 k8, PySem.W.mg_of X G a8, (fun_mk (st := s__law_draw) l8 c8 k8).binds (ps := ["deck", "bound"]) fun _ _ _ _ _ _ us hl => match us, hl with | [_, _], _ => rfl, .nil, fun _ => .nil⟩
  have D9 : Def l.prog w K mg "_law_join" s__law_join ["one", "other"] [] := ⟨g9, _, [], [], fun_mk (st := s__law_join) l9 c9 k9, PySem.W.mg_of X G a9, (fun_mk (st := s__law_join) l9 c9 k9).binds (ps := ["one", "other"]) fun _ _ _ _ _ _ us hl => match us, hl with | [_, _], _ => rfl, .nil, fun _ => .nil⟩
  have D10 : Def l.prog w K mg "_law_deeds" s__law_deeds ["deck", "copies", "count"] [] := ⟨g10, _, [], [], fun_mk (st := s__law_deeds) l10 c10 k10, PySem.W.mg_of X G a10, (fun_mk (st := s__law_deeds) l10 c10 k10).binds (ps := ["deck", "copies", "count"]) fun _ _ _ _ _ _ us hl => match us, hl with | [_, _, _], _ => rfl, .nil, fun _ => .nil⟩
  have D11 : Def l.prog w K mg "_law_rows" s__law_rows ["copies", "deeds"] [] := ⟨g11, _, [], [], fun_mk (st := s__law_rows) l11 c11 k11, PySem.W.mg_of X G a11, (fun_mk (st := s__law_rows) l11 c11 k11).binds (ps := ["copies", "deeds"]) fun _ _ _ _ _ _ us hl => match us, hl with | [_, _], _ => rfl, .nil, fun _ => .nil⟩
  have D12 : Def l.prog w K mg "_law_vector" s__law_vector ["copies", "knows"] [] := ⟨g12, _, [], [], fun_mk (st := s__law_vector) l12 c12 k12, PySem.W.mg_of X G a12, (fun_mk (st := s__law_vector) l12 c12 k12).binds (ps := ["copies", "knows"]) fun _ _ _ _ _ _ us hl => match us, hl with | [_, _], _ => rfl, .nil, fun _ => .nil⟩
  have D13 : Def l.prog w K mg "_law_tables" s__law_tables ["copies", "deeds"] [] := ⟨g13, _, [], [], fun_mk (st := s__law_tables) l13 c13 k13, PySem.W.mg_of X G a13, (fun_mk (st := s__law_tables) l13 c13 k13).binds (ps := ["copies", "deeds"]) fun _ _ _ _ _ _ us hl => match us, hl with | [_, _], _ => rfl, .nil, fun _ => .nil⟩
  have D14 : Def l.prog w K mg "_law_same" s__law_same ["told", "due"] [] := ⟨g14, _, [], [], fun_mk (st := s__law_same) l14 c14 k14, PySem.W.mg_of X G a14, (fun_mk (st := s__law_same) l14 c14 k14).binds (ps := ["told", "due"]) fun _ _ _ _ _ _ us hl => match us, hl with | [_, _], _ => rfl, .nil, fun _ => .nil⟩
  refine ⟨PySem.W.fnOf "law" "law" (defArgs s_law) (defBody s_law) (defScope s_law) .none kV15 dc15 pm15 an15 cd15 ct15, fun s v => .of_eq rfl, fun base _ _ => ?_⟩
  have C_meet := ok_meet (base := base) T D0
  have C_join := ok_join (base := base) T D1
  have C_raised := ok_raised (base := base) T D2
  have C_joined := ok_joined (base := base) T D3 C_join
  have C_behind := ok_behind (base := base) T D4 C_join C_joined C_raised
  have C_sheets := ok_sheets (base := base) T D5 C_behind
  have C_sure := ok_sure (base := base) T D6 C_meet C_sheets
  have C__law_deck := ok__law_deck (base := base) T D7
  have C__law_draw := ok__law_draw (base := base) T D8
  have C__law_join := ok__law_join (base := base) T D9
  have C__law_deeds := ok__law_deeds (base := base) T D10 C__law_draw
  have C__law_rows := ok__law_rows (base := base) T D11
  have C__law_vector := ok__law_vector (base := base) T D12
  have C__law_tables := ok__law_tables (base := base) T D13
  have C__law_same := ok__law_same (base := base) T D14
  exact ok_law T (fun_mk (st := s_law) l15 c15 k15) C__law_deck C__law_deeds C__law_draw C__law_join C__law_rows C__law_same C__law_tables C__law_vector C_sheets C_sure

end DL

open PySem PySem.W PyProof.Rows in
set_option maxRecDepth 100000 in
set_option maxHeartbeats 0 in
theorem PySem.Challenge.cw_everymerge_k66_what_all_know_holds : PySem.Challenge.rw_everymerge_k66_what_all_know.Holds := by
  w_on; o_law; k_head; (case hw => w_witness2)
  k_fill
  refine DL.walk_law (l := PySem.Challenge.rw_everymerge_k66_what_all_know) (n := 63) (k := 6) (x := "script") (sp := DL.sp_law) rfl (by decide) rfl ⟨rfl, by decide, by decide⟩ (fun w h Y => PySem.W.kIn_of Y) ?F (fun K M y ns _ hr => ⟨y, ns, rfl, hr, fun _ => rfl⟩)
  case F =>
    intro w mg fa h KX G hmg
    refine' DL.all_mk KX G hmg ?a0 ?l0 ?c0 ?k0 ?a1 ?l1 ?c1 ?k1 ?a2 ?l2 ?c2 ?k2 ?a3 ?l3 ?c3 ?k3 ?a4 ?l4 ?c4 ?k4 ?a5 ?l5 ?c5 ?k5 ?a6 ?l6 ?c6 ?k6 ?a7 ?l7 ?c7 ?k7 ?a8 ?l8 ?c8 ?k8 ?a9 ?l9 ?c9 ?k9 ?a10 ?l10 ?c10 ?k10 ?a11 ?l11 ?c11 ?k11 ?a12 ?l12 ?c12 ?k12 ?a13 ?l13 ?c13 ?k13 ?a14 ?l14 ?c14 ?k14 ?a15 ?l15 ?c15 ?k15 ?z_abs ?z_all ?z_dict ?z_int ?z_len ?z_list ?z_max ?z_min ?z_range ?z_repr ?z_tuple ?z_zip
    (case a0 => k_is)
    (case l0 => k_is)
    (case c0 => k_is)
    (case k0 => k_is)
    (case a1 => k_is)
    (case l1 => k_is)
    (case c1 => k_is)
    (case k1 => k_is)
    (case a2 => k_is)
    (case l2 => k_is)
    (case c2 => k_is)
    (case k2 => k_is)
    (case a3 => k_is)
    (case l3 => k_is)
    (case c3 => k_is)
    (case k3 => k_is)
    (case a4 => k_is)
    (case l4 => k_is)
    (case c4 => k_is)
    (case k4 => k_is)
    (case a5 => k_is)
    (case l5 => k_is)
    (case c5 => k_is)
    (case k5 => k_is)
    (case a6 => k_is)
    (case l6 => k_is)
    (case c6 => k_is)
    (case k6 => k_is)
    (case a7 => k_is)
    (case l7 => k_is)
    (case c7 => k_is)
    (case k7 => k_is)
    (case a8 => k_is)
    (case l8 => k_is)
    (case c8 => k_is)
    (case k8 => k_is)
    (case a9 => k_is)
    (case l9 => k_is)
    (case c9 => k_is)
    (case k9 => k_is)
    (case a10 => k_is)
    (case l10 => k_is)
    (case c10 => k_is)
    (case k10 => k_is)
    (case a11 => k_is)
    (case l11 => k_is)
    (case c11 => k_is)
    (case k11 => k_is)
    (case a12 => k_is)
    (case l12 => k_is)
    (case c12 => k_is)
    (case k12 => k_is)
    (case a13 => k_is)
    (case l13 => k_is)
    (case c13 => k_is)
    (case k13 => k_is)
    (case a14 => k_is)
    (case l14 => k_is)
    (case c14 => k_is)
    (case k14 => k_is)
    (case a15 => k_is)
    (case l15 => k_is)
    (case c15 => k_is)
    (case k15 => k_is)
    (case z_abs => k_is)
    (case z_all => k_is)
    (case z_dict => k_is)
    (case z_int => k_is)
    (case z_len => k_is)
    (case z_list => k_is)
    (case z_max => k_is)
    (case z_min => k_is)
    (case z_range => k_is)
    (case z_repr => k_is)
    (case z_tuple => k_is)
    (case z_zip => k_is)
#print axioms PySem.Challenge.cw_everymerge_k66_what_all_know_holds

